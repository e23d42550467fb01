import PyProof.Rows.All
import Wide.All
import OpenK.AllK
import Wide.FinOn
import HandS.ForMost
import HandS.Wide
import HandS.TupMul
import HandS.TupAny
import HandS.Exc
import HandS.ExcOwn
import HandS.WordsExc
import HandS.Ends
import HandS.SetFor
import HandS.SortInts
import HandS.ExcValue
import PyProof.TupleOfSeq
import HandS.Strs
import HandS.Style
import HandS.SetTxt0
import HandS.List
import PyProof.Rows.SortStr
import PyProof.Rows.StrMeet
import PyProof.Rows.SortShellAny
import PyProof.P3Eq
import PyProof.EqLayable
import HandS.WideBits
import HandS.Gcd
import HandS.IsInst
import HandS.Small
import HandS.WordsDict
import HandS.Conv
import PyProof.ReprRoads
import PyProof.Rows.TmSorted
import HandS.ExcIs
import HandS.Text
import HandS.RaiseMore
import HandS.TryOnly
import PyProof.ExcBaseAll.ValueError
import PyProof.ReprLen
import PyProof.Rows.ReprShort
import PyProof.Rows.ReprOcc
import PySem.Challenge.RW_sayswhy_k03_parts_of_terms
set_option Elab.async false
set_option linter.all false
set_option maxRecDepth 100000
set_option maxHeartbeats 4000000
set_option autoImplicit false
namespace Py
open PySem PySem.Spec PyProof.Rows L2
/-! ### a tuple times one, times nothing -/
theorem mul_same (l : Addr) (items : Array Value) (n : Nat) (dd : Option Addr) (sl : Array (Option Value)) (x : Int) (u : Tok) (c0 : (decide (x < -(2 ^ 63)) || decide (x ≥ 2 ^ 63)) = false) (c1 : (items.isEmpty || x == 1) = true) :
    Meets (Builtin.«tuple.__mul__» ⟨[.ref l, .int x u], []⟩) (fun _ R s => s.heap.get? l = some { cls := .type "tuple", dict := dd, data := .seq items n, slots := sl } ∧ R (.ok (.ret (Value.ref l))) s) :=
  .of_wp fun prog w A R s h => by
    obtain ⟨hp, g, d, tk, os⟩ := s
    obtain ⟨hl, h⟩ := h
    have f1 := AutoSeq1.idx_int
    wp_walk using wpAny_loadPart' hl
    repeat (first
      | (refine wpAny_ite_false (decide_eq_false (by rw [c0]; exact Bool.false_ne_true)) ?_; wp_walk using wpAny_loadPart' hl)
      | (refine wpAny_ite_true (decide_eq_true (by rw [c1])) ?_; wp_walk using wpAny_loadPart' hl))
    exact ⟨_, rfl, h⟩
theorem mul_none (l : Addr) (items : Array Value) (n : Nat) (dd : Option Addr) (sl : Array (Option Value)) (x : Int) (u : Tok) (c0 : (decide (x < -(2 ^ 63)) || decide (x ≥ 2 ^ 63)) = false) (c1 : (items.isEmpty || x == 1) = false) (c2 : (decide (x ≤ 0) || items.isEmpty) = true) :
    Meets (Builtin.«tuple.__mul__» ⟨[.ref l, .int x u], []⟩) (fun _ R s => s.heap.get? l = some { cls := .type "tuple", dict := dd, data := .seq items n, slots := sl } ∧
      R (.ok (.ret (Value.ref s.heap.objs.size))) { s with heap := s.heap.push { cls := Value.type "tuple", data := Data.seq #[] }, toks := s.toks }) :=
  .of_wp fun prog w A R s h => by
    obtain ⟨hp, g, d, tk, os⟩ := s
    obtain ⟨hl, h⟩ := h
    have f1 := AutoSeq1.idx_int
    wp_walk using wpAny_loadPart' hl
    repeat (first
      | (refine wpAny_ite_false (decide_eq_false (by rw [c0]; exact Bool.false_ne_true)) ?_; wp_walk using wpAny_loadPart' hl)
      | (refine wpAny_ite_false (decide_eq_false (by rw [c1]; exact Bool.false_ne_true)) ?_; wp_walk using wpAny_loadPart' hl)
      | (refine wpAny_ite_true (decide_eq_true (by rw [c2])) ?_; wp_walk using wpAny_loadPart' hl))
    exact ⟨_, rfl, h⟩
section
variable {X : Cx}
theorem op_same : OpR X (binaryOp .Mult) (fun x y H Q => ∃ l k xs, x = .ref l ∧ y = .int k ∧ SqT X.K H l xs ∧ (xs = [] ∨ k = 1) ∧ -(2 ^ 63) ≤ k ∧ k < 2 ^ 63 ∧ Q (.ref l) H) := by
  intro pins s σ H x y v u Q I rx ry h
  obtain ⟨l, k, xs, rfl, rfl, hT, hk, h1, h2, q⟩ := h
  cases rx
  obtain ⟨t, rfl⟩ := ry
  obtain ⟨its, r, ⟨⟨cls, dd, data, sl⟩, ho, hc, n, hd⟩, hs⟩ := I.tuple hT
  simp only at hc hd
  subst hc hd
  have hle : its.length = xs.length := r.length.symm
  have c0 : (decide (k < -(2 ^ 63)) || decide (k ≥ 2 ^ 63)) = false := by
    rw [decide_eq_false (by omega), decide_eq_false (by omega)] <;> rfl
  have c1 : (its.toArray.isEmpty || k == 1) = true := by
    rcases hk with rfl | rfl
    · have : its = [] := List.eq_nil_of_length_eq_zero hle
      subst this
      rfl
    · simp
  exact wpAny_binaryOp_repeat_ref (T := "tuple") (U := "int") (by decide) ⟨_, ho, rfl⟩ (fun s' => typeIs_int s' k t) noFill_tuple_mul F.fills_int_mul F.slot_int_rmul repeat_tuple F.slot_int_index.lookup
    (call_meets F.slot_int_rmul (typeIs_int s k t) F.entry_int_rmul (F.args_int_rmul_2 _ _) (int_rmul_tuple k t l its.toArray n dd sl)
      ⟨ho, rfl, ⟨_, ho, rfl⟩, call_meets F.slot_tuple_mul ⟨_, ho, rfl⟩ F.entry_tuple_mul (F.args_tuple_mul_2 _ _) (mul_same l its.toArray n dd sl k t c0 c1) ⟨ho, ⟨.ref l, H, I, rfl, q⟩⟩⟩)
theorem op_none : OpR X (binaryOp .Mult) (fun x y H Q => ∃ l k xs, x = .ref l ∧ y = .int k ∧ SqT X.K H l xs ∧ xs ≠ [] ∧ k ≤ 0 ∧ -(2 ^ 63) ≤ k ∧ ∀ p, H p = none → Q (.ref p) (upd H p (.tup []))) := by
  intro pins s σ H x y v u Q I rx ry h
  obtain ⟨l, k, xs, rfl, rfl, hT, hne, hk, h1, q⟩ := h
  cases rx
  obtain ⟨t, rfl⟩ := ry
  obtain ⟨its, r, ⟨⟨cls, dd, data, sl⟩, ho, hc, n, hd⟩, hs⟩ := I.tuple hT
  simp only at hc hd
  subst hc hd
  have hle : its.length = xs.length := r.length.symm
  have hi : its.toArray.isEmpty = false := by
    cases its with
    | nil => exact absurd (List.eq_nil_of_length_eq_zero hle.symm) hne
    | cons a b => rfl
  have c0 : (decide (k < -(2 ^ 63)) || decide (k ≥ 2 ^ 63)) = false := by
    rw [decide_eq_false (by omega), decide_eq_false (by omega)] <;> rfl
  have c1 : (its.toArray.isEmpty || k == 1) = false := by
    rw [hi, Bool.false_or]
    exact beq_eq_false_iff_ne.mpr (by omega)
  have c2 : (decide (k ≤ 0) || its.toArray.isEmpty) = true := by
    rw [decide_eq_true hk]; rfl
  refine wpAny_binaryOp_repeat_ref (T := "tuple") (U := "int") (by decide) ⟨_, ho, rfl⟩ (fun s' => typeIs_int s' k t) noFill_tuple_mul F.fills_int_mul F.slot_int_rmul repeat_tuple F.slot_int_index.lookup
    (call_meets F.slot_int_rmul (typeIs_int s k t) F.entry_int_rmul (F.args_int_rmul_2 _ _) (int_rmul_tuple k t l its.toArray n dd sl)
      ⟨ho, rfl, ⟨_, ho, rfl⟩, call_meets F.slot_tuple_mul ⟨_, ho, rfl⟩ F.entry_tuple_mul (F.args_tuple_mul_2 _ _) (mul_none l its.toArray n dd sl k t c0 c1 c2) ⟨ho, ?_⟩⟩)
  refine ⟨.ref s.heap.objs.size, _, I.laid (t' := s.toks) (o := .tup []) (fun b ob q => Heap.get?_push_of_some _ q) (Nat.le_refl _) ?_, rfl, q _ (I.hok.fresh (Nat.le_refl _))⟩
  exact ⟨by simp, [], .nil, IsTup.new _ _⟩
end
/-! ### t += u -/
theorem no_tup_iadd : typeLookup (.type "tuple") (dunderI "add") = pure none := by rw [typeLookup_type, builtinLookup_eq_fast]; kernel_rfl
theorem iop_cat {X : Cx} : OpR X (inplaceOp .Add) (rCatA X.K) := by
  intro pins s σ H x y v u Q I rx ry h
  obtain ⟨a, b, xs, ys, rfl, rfl, ha, hb, hz, q0, q1, q2⟩ := h
  cases rx
  cases ry
  obtain ⟨its, r1, p1, _⟩ := I.tuple ha
  obtain ⟨its2, r2, p2, _⟩ := I.tuple hb
  obtain ⟨⟨cls, dd, data, sl⟩, ho, hc, n, hd⟩ := id p1
  obtain ⟨⟨cls2, dd2, data2, sl2⟩, ho2, hc2, n2, hd2⟩ := id p2
  simp only at hc hd hc2 hd2
  subst hc hd hc2 hd2
  have e : its.toArray ++ its2.toArray = (its ++ its2).toArray := by simp
  refine wpAny_inplaceOp_concat ⟨_, ho, rfl⟩ ⟨_, ho2, rfl⟩ no_tup_iadd noFill_tuple_add seq_tuple_add ?_
  by_cases hx : its = []
  · subst hx
    exact call_meets PySem.F.slot_tuple_add ⟨_, ho, rfl⟩ PySem.F.entry_tuple_add (PySem.F.args_tuple_add_2 _ _) (tuple_addW0 a b ([] : List Value).toArray its2.toArray n n2 dd dd2 sl sl2 (by simp)) ⟨ho, ho2, ⟨.ref b, H, I, rfl, q0 (r1.nil_iff.mp rfl)⟩⟩
  · by_cases hw : its2 = []
    · exact call_meets PySem.F.slot_tuple_add ⟨_, ho, rfl⟩ PySem.F.entry_tuple_add (PySem.F.args_tuple_add_2 _ _) (tuple_addW1 a b its.toArray its2.toArray n n2 dd dd2 sl sl2 (by simpa using hx) (by simp [hw])) ⟨ho, ho2, ⟨.ref a, H, I, rfl, q1 (fun z => hx (r1.nil_iff.mpr z)) (r2.nil_iff.mp hw)⟩⟩
    · refine call_meets PySem.F.slot_tuple_add ⟨_, ho, rfl⟩ PySem.F.entry_tuple_add (PySem.F.args_tuple_add_2 _ _) (tuple_addW2 a b its.toArray its2.toArray n n2 dd dd2 sl sl2 (by simpa using hx) (by simpa using hw) (by rw [List.size_toArray, List.size_toArray, ← r1.length, ← r2.length]; exact hz)) ⟨ho, ho2, ?_⟩
      rw [e]
      exact ⟨.ref s.heap.objs.size, _, I.laid (t' := s.toks) (o := .tup (xs ++ ys)) (fun b ob q => Heap.get?_push_of_some _ q) (Nat.le_refl _) ⟨by rw [List.length_append]; exact hz, _, r1.append r2, IsTup.new _ _⟩, rfl, q2 (fun z => hx (r1.nil_iff.mpr z)) (fun z => hw (r2.nil_iff.mpr z)) _ (I.hok.fresh (Nat.le_refl _))⟩
theorem iop_mulW2 {X : Cx} : OpR X (inplaceOp .Mult) (rI CMulW fun i j => .int (i * j)) := opI fun _ _ _ _ _ _ _ hc q => imul_int q hc.ok
end Py

namespace Py
open PySem PySem.Spec PyProof.Rows L2

/-! ### a def's promise where no guard stands; exceptions may leave it -/
structure FnG (P : Program) (w : World) (K : PySem.W.Frag) (mg : Str → Option Value) (base : Heap) (k : Nat) (f : Addr) (fd : FuncData) (ps : List Str) (sp : Sp) : Prop where
  len : ∀ vs H Q E, sp vs H Q E → vs.length = ps.length
  run : ∀ (A : Around) (outer : List Env) (s : Shared) (H : Hp) (args : Args) (us : List Value) (vs : List V) (Q : VK) (E : XK), Room k A → A.guards = some [] → Env0 P w K mg base A outer s H → BindsTo s fd args (ps.zip us) → Vals vs us → sp vs H Q E →
    codeAny (model P w) A (.call (.ref f) args) (CR (L2.CX P w) outer P w H s Q E) s
section
variable {P : Program} {w : World} {K : PySem.W.Frag} {mg : Str → Option Value} {base : Heap}
theorem funG {x qual : Str} {st : Stmt} {f : Addr} {fd : FuncData} {N ps : List Str} {k : Nat} {sp : Sp} (F : Fun K x qual st f fd) (S : FnScope N ps (defScope st)) (len : ∀ vs H Q E, sp vs H Q E → vs.length = ps.length)
    (hbody : ∀ (cdv : Value) (A : Around) (outer : List Env) (s : Shared) (H : Hp) (vs : List V) (Q : VK) (E : XK), Room k (A.deeper (envOfC qual (defScope st) s.heap.objs.size f cdv)) → A.guards = some [] → sp vs H Q E →
      ∃ t, PSs (cxOf (L2.CX P w) P w K mg base N qual (defScope st) f cdv A outer s H E) (defBody st) t ∧ t { nx := fun _ H' => Q .non H', rt := Q } (L2.start N vs) H) : FnG P w K mg base (k + 1) f fd ps sp := by
  obtain ⟨oc, od, kV, doc, pm, an, cdv, ct, osl, rfl, lk, hcd⟩ := F.ex
  refine ⟨len, fun A outer s H args us vs Q E hr hg e0 hb r hsp => ?_⟩
  have hl := len _ _ _ _ hsp
  have KX : K.In s.heap := e0.mod.kin.keeps fun b o e => (e0.bs b o e).1
  have lim : s.heap.NoLimit := e0.mod.nolimit.keeps fun b o e => (e0.bs b o e).1
  refine codeAny_call_function hr.depth (KX _ _ lk) rfl S.co S.gen rfl (PySem.W.codeRec_of KX hcd) (hb _ _ _ _ ?_)
  refine wpAny_newFunctionEnv_cells S.kind (fun ⟨n, v⟩ hy => (S.par n (List.of_mem_zip hy).1).imp id fun q => ⟨q, PySem.W.cellsFrom_some _ _ _ (.inl q)⟩) fun env he s1 x => ?_
  subst he
  refine ⟨lim.keeps x.toInCall.keep, codeAny_func ?_⟩
  obtain ⟨t, ht, hq⟩ := hbody cdv A outer s H vs Q E (hr.deeper _) hg hsp
  refine wpAny_mono (ht.run [] s1 (L2.start N vs) H _ (inv_start S hr.hd e0 hl r x) hq) (fun fl s' hs => ?_) fun e s' hs => hs
  cases fl with
  | ret u =>
    obtain ⟨v, σ', H', J, rv, q⟩ := hs
    exact ⟨v, H', J.os, J.bare, J.base, J.hok, rv, q⟩
  | next =>
    obtain ⟨σ', H', J, q⟩ := hs
    exact ⟨.non, H', J.os, J.bare, J.base, J.hok, rfl, q⟩
  | brk =>
    obtain ⟨_, _, _, q⟩ := hs
    exact False.elim q
  | cont =>
    obtain ⟨_, _, _, q⟩ := hs
    exact False.elim q
end
section
variable {X : Cx} {k : Nat} {f : Addr} {fd : FuncData} {ps : List Str} {sp : Sp} {E : L2.St → XK} {x : Str} {p pos : Pos} {e : Expr} {es : List Expr} {t : TA}
theorem runG {pins : List (Addr × Obj)} {σ : L2.St} {H : Hp} {s : Shared} {Q : VK} {us : List Value} {vs : List V} (F : FnG X.prog X.w X.K X.mg X.base k f fd ps sp) (hr : Room k X.A) (hgd : X.A.guards = some []) (hb : Binds X.K fd ps []) (hx : PassesAt (L2.CX X.prog X.w) X σ (E σ))
    (I : Inv X pins σ H s) (r : Vals vs us) (h : sp vs H Q (E σ)) : wpAny (model X.prog X.w) X.A (call (.ref f) us) (EP X pins σ Q) X.xe s := by
  have hl : us.length = ps.length := by rw [← r.length]; exact F.len _ _ _ _ h
  have b := hb s us I.kIn (by rw [List.append_nil]; exact hl)
  rw [List.append_nil] at b
  refine wpAny_call (codeAny_mono (F.run X.A X.stack s H ⟨us, []⟩ us vs Q (E σ) hr hgd I.env0 b r h) fun res s' hq => ?_)
  cases res with
  | error e => exact hx pins H s e s' I hq
  | ok fl =>
    cases fl with
    | ret u => exact I.after hq
    | next => exact False.elim hq
    | brk => exact False.elim hq
    | cont => exact False.elim hq
/-- f(e, ..); E: what is wanted of an exception at the slots σ -/
theorem pe_callG (F : FnG X.prog X.w X.K X.mg X.base k f fd ps sp) (hr : Room k X.A) (hgd : X.A.guards = some []) (hg : Gl X x) (hm : X.mg x = some (.ref f)) (hk : PySem.W.keepIn X.K (.ref f) = true) (hb : Binds X.K fd ps []) (hx : ∀ σ, PassesAt (L2.CX X.prog X.w) X σ (E σ))
    (ha : PA X (e :: es) t) (hdb : (x == ("__debug__" : Str)) = false := by decide) (he : starEach (e :: es) X.env = (false, eval e X.env) :: starEach es X.env := by rfl) (hpl : (backTo pos (starEach es X.env)).any (·.1) = false := by rfl) :
    PE X (.Call (.Name x p) (e :: es) [] pos) (fun σ H Q => t σ H fun vs H1 => sp vs H1 Q (E σ)) :=
  ⟨fun pins s σ H Q I h => wpAny_Call_Name_kw (ld_glob I hg hm (PySem.W.callWith_K (h₀ := X.base) I.ok.mod.kin hk (thn (ha.run pos pins s σ H _ I h) fun us s1 ⟨vs, H1, I1, r, q⟩ => ⟨I1.kIn, runG F hr hgd hb (hx σ) I1 r q⟩) he hpl) hdb)⟩
theorem pe_callG0 (F : FnG X.prog X.w X.K X.mg X.base k f fd ps sp) (hr : Room k X.A) (hgd : X.A.guards = some []) (hg : Gl X x) (hm : X.mg x = some (.ref f)) (hk : PySem.W.keepIn X.K (.ref f) = true) (hb : Binds X.K fd ps []) (hx : ∀ σ, PassesAt (L2.CX X.prog X.w) X σ (E σ))
    (hdb : (x == ("__debug__" : Str)) = false := by decide) : PE X (.Call (.Name x p) [] [] pos) (fun σ H Q => sp [] H Q (E σ)) :=
  ⟨fun pins s σ H Q I h => wpAny_Call_Name_kw (ld_glob I hg hm (PySem.W.callWith_K0 I.kIn hk (runG (us := []) F hr hgd hb (hx σ) I .nil h)) hdb)⟩
end

/-! ### the law's own call -/
theorem top_call {P : Program} {w : World} {K : PySem.W.Frag} {mg mb : Str → Option Value} {k : Nat} {fa a : Addr} {fd : FuncData} {x : Str} {sp : Sp} {s₁ : Shared} {vs : List Value} {ns : List Int}
    (KX : K.In s₁.heap) (hns : s₁.heap.Ns mainGlobals mg) (hb : s₁.heap.Ns builtinsNs mb) (hbb : ∀ x : Str, x ≠ "__name__" → mb x = bootBuiltins x) (hlim : s₁.heap.NoLimit) (hg : s₁.gens = #[])
    (ha : s₁.heap.get? a = some { cls := .type "list", data := .seq vs.toArray }) (hi : IntsAre vs ns) (hl : ns.length ≤ sizeLine) (hr : Room k callerA)
    (F : ∀ base : Heap, K.In base → base.Ns mainGlobals mg → FnG P w K mg base k fa fd [x] sp) (hbind : ∀ (s : Shared) (u : Value), BindsTo s fd ⟨[u], []⟩ [(x, u)])
    (hsp : ∀ H : Hp, Only H → SqL K H a (ns.map V.int) → sp [.ref a] H (fun v _ => v = .bl true) fun _ _ _ => False) :
    codeAny (model P w) callerA (.call (.ref fa) ⟨[.ref a], []⟩) (fun r s' => r = .ok (.ret (.bool true)) ∧ OldK s₁.heap s'.heap ∧ s'.os = s₁.os ∧ AllBare s'.gens) s₁ := by
  have rv := vals_ints hi
  have core : ∀ H : Hp, Only H → SqL K H a (ns.map V.int) → HOk P w H s₁.heap → (∀ b, H b ≠ none → b = a) → (H a ≠ none → K.lookup a = none) →
      codeAny (model P w) callerA (.call (.ref fa) ⟨[.ref a], []⟩) (fun r s' => r = .ok (.ret (.bool true)) ∧ OldK s₁.heap s'.heap ∧ s'.os = s₁.os ∧ AllBare s'.gens) s₁ := by
    intro H hO hS hok hA hK
    have only : ∀ {b : Addr}, b ≠ a → H b = none := fun {b} ne => by
      cases q : H b with
      | none => rfl
      | some u => exact absurd (hA b (by rw [q]; exact fun z => nomatch z)) ne
    have nsK : ∀ {b : Addr} {m : Str → Option Value}, s₁.heap.Ns b m → (hidT s₁.heap H).Ns b m := fun {b m} ⟨o, es, ep, e, d, r⟩ => by
      refine ⟨o, es, ep, hidT_get e (only fun z => ?_), d, r⟩
      subst z
      rw [ha] at e; cases e
      cases (show Data.seq vs.toArray _ = Data.dict es ep from d)
    have hKb : K.In (hidT s₁.heap H) := fun b o e => by
      refine hidT_get (KX b o e) ?_
      by_cases z : b = a
      · subst z
        cases q : H b with
        | none => rfl
        | some u => rw [hK (by rw [q]; exact fun z => nomatch z)] at e; cases e
      · exact only z
    have hM : Mod K mg (hidT s₁.heap H) := ⟨hKb, nsK hns, ⟨mb, nsK hb, hbb⟩, let ⟨mc, h1, h2⟩ := hlim; ⟨mc, nsK h1, h2⟩⟩
    refine codeAny_mono ((F _ hKb (nsK hns)).run callerA [] s₁ H ⟨[.ref a], []⟩ [.ref a] [.ref a] _ _ hr rfl
      ⟨rfl, hM, fun b o e => of_hidT e, Nat.le_of_eq (hidT_size _ _), trivial, fun b hb => absurd (show b ∈ ([] : List Addr) from hb) (by simp), hok, .of_eq hg⟩ (hbind s₁ (.ref a)) (.cons rfl .nil) (hsp H hO hS)) fun r s' h => ?_
    cases r with
    | error e =>
      obtain ⟨_, _, _, _, _, _, _, _, _, _, _, _, z⟩ := h
      exact z.elim
    | ok fl =>
      cases fl with
      | next => exact False.elim h
      | brk => exact False.elim h
      | cont => exact False.elim h
      | ret u =>
        obtain ⟨v, H', os, bare, un, hok', r', q⟩ := h
        obtain rfl : v = .bl true := q
        obtain rfl : u = Value.bool true := r'
        refine ⟨rfl, OldK.of_keep fun b o e => ?_, os, bare⟩
        rcases hO b with z | ⟨ob, xs, z⟩
        · exact un.keep b o e z (fun y => absurd (show b ∈ ([] : List Addr) from y) (by simp)) (by simp)
        · obtain ⟨e1, _⟩ := hok b _ z
          obtain ⟨e2, _⟩ := hok' b _ (un.frzs b ob _ z)
          rw [e] at e1; cases e1
          exact e2
  cases hk : K.lookup a with
  | some o =>
    have e := KX a o hk
    rw [ha] at e
    cases e
    exact core (fun _ => none) (fun _ => .inl rfl) (.inr ⟨_, vs.toArray, _, hk, rfl, rfl, rfl, by rw [List.size_toArray, hi.length]; exact hl, by simpa using rv⟩) (fun b u z => nomatch (show (none : Option HO) = some u from z)) (fun b z => absurd rfl z) fun z => absurd rfl z
  | none =>
    refine core (fun b => if b = a then some (.frz { cls := .type "list", data := .seq vs.toArray } (.lst (ns.map V.int))) else none) (fun b => ?_) (.inl (.inr ⟨{ cls := .type "list", data := .seq vs.toArray }, if_pos rfl⟩)) (fun b u z => ?_) (fun b z => ?_) fun _ => hk
    · by_cases hb : b = a
      · exact .inr ⟨_, _, if_pos hb⟩
      · exact .inl (if_neg hb)
    · by_cases hb : b = a
      · subst hb
        cases (if_pos rfl).symm.trans z
        exact ⟨ha, by rw [List.length_map]; exact hl, vs, _, rv, ha⟩
      · cases (if_neg hb).symm.trans z
    · by_cases hb : b = a
      · exact hb
      · exact absurd (if_neg hb) z
theorem walk_G {l : PySem.W.OpenLaw} {n k : Nat} {q : Program} {loose : List Str} {XP : (Str → Option Value) → Heap → Prop} {YP : World → Heap → Prop} {d : DefRec} {K : Params → PySem.W.Frag} {x : Str}
    (hn : l.most = some n) (hn2 : n ≤ sizeLine) (hdf : d.params.defaults = []) (hr : Room k callerA)
    (hY : ∀ (w : World) (h : Heap), YP w h → (K w.params).In h)
    (F : ∀ (w : World) (mg : Str → Option Value) (fa : Addr) (h : Heap), (K w.params).In h → h.Ns mainGlobals mg → mg d.name = some (.ref fa) →
      ∃ (fd : FuncData) (sp : Sp), (∀ (s : Shared) (u : Value), BindsTo s fd ⟨[u], []⟩ [(x, u)]) ∧
        (∀ (H : Hp) (a : Addr) (ns : List Int), ns.length ≤ n → Only H → SqL (K w.params) H a (ns.map V.int) → sp [.ref a] H (fun v _ => v = .bl true) fun _ _ _ => False) ∧
        ∀ base : Heap, (K w.params).In base → base.Ns mainGlobals mg → FnG l.prog w (K w.params) mg base k fa fd [x] sp) :
    PySem.W.WalkO q loose XP YP l.row.toRowW d [] (fun f vs => PySem.call f vs) := by
  refine Att.attach_call hn hdf fun w s₀ s₁ mg mb fa o pm cd doc a vs ns G Y ho hd hcd hmg hobj hints hlen hg => ?_
  have KX := hY w _ Y
  obtain ⟨fd, sp, hb, hsp, hF⟩ := F w mg fa _ KX G.T.g hmg
  exact top_call KX G.T.g G.T.b G.T.builtins G.T.nolimit hg hobj hints (Nat.le_trans hlen hn2) hr hF hb fun H hO hS => hsp H a ns hlen hO hS
end Py

namespace Py
open PySem PySem.Spec PyProof.Rows L2
/-! ### set(x), x a list of numbers -/
abbrev setNew (w : World) : Obj := { cls := .type "set", dict := none, data := .set #[] 0 (.fresh 0 0 (!w.params.followText "set-order")) }
abbrev sh (w : World) (s : Shared) : Heap := s.heap.push (setNew w)
section
variable {P : Program} {w : World} {A : Around} {E : Value → Shared → Prop} {s : Shared}
theorem set_list_ints {l : Addr} {items : Array Value} (ns : List Int) {Q : Value → Shared → Prop} (hh : A.handled = none) (hl : s.heap.IsList l items) (hit : IntsAre items.toList ns) (hb : ns.length + 1 < scanBound)
    (h : ∀ (h' : Heap) (tk c : Nat), SetR w h' s.heap.objs.size (fun j => decide (j ∈ ns)) c → c ≤ ns.length → (∀ b o, s.heap.get? b = some o → h'.get? b = some o) → Q (.ref s.heap.objs.size) { s with heap := h', toks := tk }) :
    wpAny (model P w) A (call (.type "set") [.ref l]) Q E s := by
  have hisz : items.size = ns.length := by
    have q := IntsAre.length hit
    rw [Array.length_toList] at q
    exact q
  obtain ⟨c, tl, hmro⟩ := F.called_set.mro
  have hmade := F.called_set.made
  have hsub := F.called_set.sub
  refine wpAny_call (codeAny_of_tree ?_)
  show wpAny _ _ (callAny (.type "set") _) _ _ _
  refine wpAny_pure ⟨Code.quiet_builtin _ (by decide +kernel), codeAny_builtin F.entry_type_call ?_⟩
  rw [Around.under_plain (weight_type_call_type "set" [.ref l] []) rfl]
  have h1 := F.called_set.notType
  have h2 := F.called_set.canCreate
  have hct := F.typeCall_set_1 (.ref l)
  repeat (any_goals (first | assumption | wp_step))

  refine codeAny_mono (code_set_led1 (.ref l) (E := E) (Q₁ := fun obj s₁ => obj = .ref s.heap.objs.size ∧ s₁ = { s with heap := sh w s }) ⟨rfl, rfl⟩) fun r s₁ hr => ?_
  cases r with
  | error e => exact hr
  | ok fl =>
    cases fl with
    | ret obj =>
      obtain ⟨rfl, rfl⟩ := hr
      have hS : (sh w s).get? s.heap.objs.size = some (setNew w) := Heap.get?_push_size _ rfl
      have hT : Shared.TypeIs { s with heap := sh w s } (.ref s.heap.objs.size) "set" := ⟨_, hS, rfl⟩
      have hli := F.called_set.init.lookup
      have hbi := F.called_set.init.bind (.ref s.heap.objs.size)
      repeat (any_goals (first | assumption | wp_step))

      refine codeAny_mono (codeAny_call_builtin (R := wants (fun r s₂ => r = .none ∧ ∃ h' tk c, s₂ = { s with heap := h', toks := tk } ∧ SetR w h' s.heap.objs.size (fun j => decide (j ∈ ns)) c ∧ c ≤ ns.length ∧
          (∀ b o, s.heap.get? b = some o → h'.get? b = some o)) E) F.called_set.init.plain F.entry_set_init (check_set_init_1 hT ?_)) fun r₂ s₂ hr₂ => ?_
      · obtain ⟨ol, hol, hcl, nl, hdl⟩ := hl
        obtain ⟨ocls, odict, odata, oslots⟩ := ol
        simp only at hcl hdl
        subst hcl; subst hdl
        have hol' : (sh w s).get? l = some { cls := .type "list", dict := odict, data := .seq items nl, slots := oslots } := Heap.get?_push_of_some _ hol
        have hsls := F.sub_list_set
        have hslf := F.sub_list_frozenset
        have hne : (Value.type "list" == Value.type "dict") = false := by decide
        have hl1 : (sh w s).IsList l items := ⟨_, hol', rfl, nl, rfl⟩
        unfold Builtin.«set.__init__» noKeywords Builtin.Frozenset.updateFrom
        generalize hPI : pyIter = PI
        wp_walk
        subst hPI

        refine wpAny_pyIter_list hl1 ?_
        refine wpAny_bind (wpAny_runValue ?_)
        have hlS : l < s.heap.objs.size := Heap.lt_size hol
        have hh3 : A.in1.in1.in1.handled = none := by simp [hh]
        have hz1 : (sh w s).objs.size = s.heap.objs.size + 1 := Heap.size_push ..
        have hneI : l ≠ (sh w s).objs.size := by
          rw [Heap.size_push]; exact Nat.ne_of_lt (Nat.lt_succ_of_lt hlS)
        have hSf : s.heap.objs.size ∉ [(sh w s).objs.size, l] := by
          rw [Heap.size_push]; simp only [List.mem_cons, List.mem_singleton, List.not_mem_nil, or_false, not_or]
          exact ⟨Nat.ne_of_lt (Nat.lt_succ_self _), Nat.ne_of_gt hlS⟩
        have hval : ∀ (i : Nat) (v : Value), items[i]? = some v → ∃ k t, ns[i]? = some k ∧ v = .int k t := fun i v hv => by
          have hi : i < ns.length := by rw [← hisz]; exact (Array.getElem?_eq_some_iff.mp hv).1
          obtain ⟨t, e⟩ := PyProof.Rows.IntsAre.int_at hit i v (by rw [Array.getElem?_toList]; exact hv)
          refine ⟨ns[i], t, List.getElem?_eq_getElem hi, ?_⟩
          rw [e, List.getD_eq_getElem?_getD, List.getElem?_eq_getElem hi] <;> rfl
        refine set_update_ints ((Walks.list hh3 _ l hneI items).toS) s.heap.objs.size
          hSf ns hisz hb hval (items.size - 0) 0 _ (by omega) (Nat.zero_le _)
          ⟨⟨_, Heap.get?_push_size _ rfl, rfl, rfl⟩, (hl1.push _)⟩ ?hS0 ?hR
        case hS0 =>
          have hget : ((sh w s).push { cls := .type "list_iterator", data := .fields #[.ref l, .int 0 0] }).get? s.heap.objs.size
              = some (setNew w) := Heap.get?_push_of_some _ hS
          exact ⟨0, Nat.le_refl 0, setR_new_at hget⟩
        case hR =>
          intro s' c' hm hc' hS'
          obtain ⟨h', g2, d', tk', os'⟩ := s'
          have eg : g2 = s.gens := hm.gens
          have ed : d' = s.drawn := hm.drawn
          have eo : os' = s.os := hm.os
          subst eg; subst ed; subst eo
          show wpAny _ _ _ _ _ _
          refine wpAny_pure ?_
          show wpAny _ _ (ret Value.none) _ _ _
          rw [hisz] at hc'
          refine wpAny_pure ⟨rfl, h', tk', c', rfl, hS', hc', fun b o e => ?_⟩
          have hb0 : b < s.heap.objs.size := Heap.lt_size e
          have hb1 : b ≠ s.heap.objs.size := Nat.ne_of_lt hb0
          have hb2 : b ≠ (sh w s).objs.size := by
            rw [Heap.size_push]; exact Nat.ne_of_lt (Nat.lt_succ_of_lt hb0)
          exact hm.heap b o (by simp only [List.mem_cons, List.mem_singleton, List.not_mem_nil, or_false, not_or]; exact ⟨hb1, hb2⟩) (Heap.get?_push_of_some _ (Heap.get?_push_of_some _ e))

      · cases r₂ with
        | error e => exact hr₂
        | ok fl₂ =>
          cases fl₂ with
          | ret r =>
            obtain ⟨rfl, h', tk, c', rfl, hS', hc', hk'⟩ := hr₂
            repeat (any_goals (first | assumption | wp_step))
            exact h _ _ _ hS' hc' hk'
          | _ => exact hr₂.elim
    | _ => exact hr.elim

end

section
variable {X : Cx}
theorem vals_ints_S : ∀ {ns : List Int} {us : List Value}, Vals (ns.map V.int) us → IntsAre us ns
  | [], _, .nil => .nil
  | n :: ns, _, .cons r t => by
    obtain ⟨k, rfl⟩ := r
    exact .cons n k (vals_ints_S t)
/-- a list or tuple of numbers, fewer than b -/
def NumL (K : PySem.W.Frag) (b : Nat) (x : V) (H : Hp) (l : Addr) (ns : List Int) : Prop := x = .ref l ∧ (SqL K H l (ns.map V.int) ∨ SqT K H l (ns.map V.int)) ∧ ns.length < b
/-- the heap with the set of ns laid at a -/
def withSet (w : World) (H : Hp) (a : Addr) (ns : List Int) (c : Nat) : Hp := upd H a (SetO w a (fun j => decide (j ∈ ns)) c)
def rSrtSet (K : PySem.W.Frag) (w : World) : V → Hp → VK → Prop := fun x H Q => ∃ l ns, NumL K 64 x H l ns ∧ ∀ (a p : Addr) (c : Nat) (us : List Int),
  H a = none → us.Pairwise (· < ·) → (∀ k, k ∈ us ↔ k ∈ ns) → withSet w H a ns c p = none → Q (.ref p) (upd (withSet w H a ns c) p (.lst (us.map V.int)))
def rLenSet (K : PySem.W.Frag) (w : World) : V → Hp → VK → Prop := fun x H Q => ∃ l ns, NumL K 4000 x H l ns ∧ ∀ (a : Addr) (c : Nat) (us : List Int),
  H a = none → us.Nodup → (∀ k, k ∈ us ↔ k ∈ ns) → Q (.int us.length) (withSet w H a ns c)
theorem boot_srt : bootBuiltins "sorted" = some (.builtin "sorted") := by decide +kernel
theorem boot_ln : bootBuiltins "len" = some (.builtin "len") := by decide +kernel
theorem boot_st : bootBuiltins "set" = some (.type "set") := by decide +kernel
/-- f(set(a)) -/
theorem pe_ofSet {f : Str} {id : String} {a : Expr} {ta : TE} {p p2 q pos : Pos} {b : Nat} {r : V → Hp → VK → Prop} (hc : X.calm = true) (hb : b ≤ 4000) (hf : bootBuiltins f = some (.builtin id)) (hn : f ≠ "__name__") (hd : (f == ("__debug__" : Str)) = false)
    (hg : Gl X f) (hm : X.mg f = none) (hg2 : Gl X "set") (hm2 : X.mg "set" = none) (ha : PE X a ta) (na : starEach [a] X.env = (false, eval a X.env) :: starEach [] X.env)
    (fin : ∀ (pins : List (Addr × Obj)) (σ : L2.St) (H : Hp) (x : V) (Q : VK), r x H Q → ∃ l ns, NumL X.K b x H l ns ∧ ∀ (s : Shared) (a : Addr) (c : Nat), H a = none → c ≤ ns.length → SetR X.w s.heap a (fun j => decide (j ∈ ns)) c → Inv X pins σ (withSet X.w H a ns c) s →
      wpAny (model X.prog X.w) X.A (call (.builtin id) [.ref a]) (EP X pins σ Q) X.xe s) :
    PE X (.Call (.Name f p) [.Call (.Name "set" p2) [a] [] q] [] pos) (fun σ H Q => ta σ H fun x H1 => r x H1 Q) := by
  refine ⟨fun pins s σ H Q I h => ?_⟩
  refine Call_ (ld_blt I hg hm hf ?_ hn hd)
  refine PyProof.Rows.callWith_builtin1 (PyProof.Rows.args_cons ?_ rfl) rfl rfl
  refine Call_ (ld_blt I hg2 hm2 boot_st ?_)
  refine PyProof.Rows.callWith_type1 (PyProof.Rows.args_cons (thn (ha.run pins s σ H _ I h) fun v s1 ⟨x, H1, I1, r1, q1⟩ => PyProof.Rows.args_nil ?_) na) na rfl
  obtain ⟨l, ns, ⟨rfl, hq, hl⟩, zf⟩ := fin pins σ H1 x Q q1
  cases r1
  rcases hq with hq | hq
  · obtain ⟨its, rv, pl, hz⟩ := I1.list hq
    refine set_list_ints ns (I1.ok.hd hc) pl.isList (by simpa using vals_ints_S rv) (by unfold scanBound; omega) fun h' tk c R hcn k => ?_
    refine PyProof.Rows.args_nil ?_
    exact zf _ _ c (I1.hok.fresh (Nat.le_refl _)) hcn R (I1.laid (t' := tk) k (Nat.le_refl _) (setO_new R))
  · obtain ⟨its, rv, pl, hz⟩ := I1.tuple hq
    refine L2.call_set_tupI ns (I1.ok.hd hc) pl (by simpa using vals_ints_S rv) (by unfold scanBound; omega) fun h' tk c R hcn k => ?_
    refine PyProof.Rows.args_nil ?_
    exact zf _ _ c (I1.hok.fresh (Nat.le_refl _)) hcn R (I1.laid (t' := tk) k (Nat.le_refl _) (setO_new R))
theorem mem_dec {ns : List Int} {k : Int} : (decide (k ∈ ns) = true) ↔ k ∈ ns := decide_eq_true_iff
theorem pe_srtSet {a : Expr} {ta : TE} {p p2 q pos : Pos} (hc : X.calm = true) (hg : Gl X "sorted") (hm : X.mg "sorted" = none) (hg2 : Gl X "set") (hm2 : X.mg "set" = none) (ha : PE X a ta) (na : starEach [a] X.env = (false, eval a X.env) :: starEach [] X.env) :
    PE X (.Call (.Name "sorted" p) [.Call (.Name "set" p2) [a] [] q] [] pos) (fun σ H Q => ta σ H fun x H1 => rSrtSet X.K X.w x H1 Q) := by
  refine pe_ofSet (b := 64) hc (by decide) boot_srt (by decide) (by decide) hg hm hg2 hm2 ha na fun pins σ H x Q ⟨l, ns, hN, z⟩ => ⟨l, ns, hN, fun s b c hb hcn R I => ?_⟩
  refine cr_sortedSet hc pins s σ _ [.ref b] [.ref b] Q I (.cons rfl .nil) ⟨b, _, c, rfl, upd_same, Nat.lt_of_le_of_lt hcn hN.2.2, fun us p hs hu _ hp => z b p c us hb hs (fun k => (hu k).trans mem_dec) hp⟩
theorem pe_lnSet {a : Expr} {ta : TE} {p p2 q pos : Pos} (hc : X.calm = true) (hg : Gl X "len") (hm : X.mg "len" = none) (hg2 : Gl X "set") (hm2 : X.mg "set" = none) (ha : PE X a ta) (na : starEach [a] X.env = (false, eval a X.env) :: starEach [] X.env) :
    PE X (.Call (.Name "len" p) [.Call (.Name "set" p2) [a] [] q] [] pos) (fun σ H Q => ta σ H fun x H1 => rLenSet X.K X.w x H1 Q) := by
  refine pe_ofSet (b := 4000) hc (by decide) boot_ln (by decide) (by decide) hg hm hg2 hm2 ha na fun pins σ H x Q ⟨l, ns, hN, z⟩ => ⟨l, ns, hN, fun s b c hb hcn R I => ?_⟩
  obtain ⟨o, es, ep, t, ho, hex, hd, _, hnd, hmem, _, hf, hn, _⟩ := R
  have hN := hN.2.2
  refine call_len_set ho hex hd hf (by rw [hn]; omega) ⟨.int (es.toList.map keyOf).length, _, I.tok _, ⟨_, by rw [List.length_map, Array.length_toList]⟩, z b c _ hb hnd fun k => ?_⟩
  exact (hmem k).symm.trans mem_dec
end
/-! ### sorted(t), t a tuple of numbers -/
section
variable {X : Cx}
def rSortT (K : PySem.W.Frag) : List V → Hp → VK → Prop := fun vs H Q => ∃ (a : Addr) (ns : List Int), vs = [V.ref a] ∧ SqT K H a (ns.map V.int) ∧
  ∀ (us : List Int) (p : Addr), us.Perm ns → us.Pairwise (· ≤ ·) → H p = none → Q (.ref p) (upd H p (.lst (us.map V.int)))
theorem cr_sortT : CallR X (.builtin "sorted") (rSortT X.K) := by
  intro pins s σ H vs us Q I r h
  obtain ⟨a, ns, rfl, hs, q⟩ := h
  obtain ⟨its, rv, ⟨o, ho, hc, n, hd⟩, hz⟩ := I.tuple hs
  rw [Vals.ref1 r]
  have hi := rv.ints
  have hl : its.length ≤ sizeLine := by rw [← rv.length]; exact hz
  refine Calls.call_function_entry kind_sorted plain_sorted entry_sorted (args_sorted1 _) ?_
  unfold Builtin.«sorted»
  refine wpAny_bind (m := checkCount "sorted" 1 1 _) (wpAny_pure ?_)
  refine wpAny_bind (wpAny_collect_seq a (.inr rfl) ho hc hd (fun g keep => ?_) (by rw [List.size_toArray]; exact hl))
  have ei : its.toArray.toList = its := by simp
  rw [ei]
  refine wpAny_bind (wpAny_newList ?_ hl)
  have hp : (g.push (seqObj "list" its.toArray 0)).get? g.objs.size = some (seqObj "list" its.toArray 0) := Heap.get?_push_size _ rfl
  refine wpAny_bind (wpAny_holding (wpAny_call_entry slot_list_sort ⟨_, hp, rfl⟩ entry_list_sort (SrtO.list_sort_ord SrtO.swo_int hp hl (fun h2 => SrtO.ints_sortable hi h2) fun out h1 h2 => ⟨_, rfl, ?_⟩) (args_list_sort _)))
  obtain ⟨k1, k2, k3⟩ := SrtO.ints_out hi h1 h2
  obtain ⟨ep, he⟩ := sortedHeap_at (vs := its) (out := out.toArray) hp
  have hlen : ((out.map SrtO.iv).map V.int).length ≤ sizeLine := by
    rw [List.length_map, k2.length_eq]
    rw [List.length_map] at hz
    exact hz
  have hgn : s.heap.get? g.objs.size = none := by
    cases e : s.heap.get? g.objs.size with
    | none => rfl
    | some u => exact absurd (Heap.lt_size (keep _ _ e)) (Nat.lt_irrefl _)
  refine wpAny_pure ⟨_, rfl, .ref g.objs.size, upd H g.objs.size (.lst ((out.map SrtO.iv).map V.int)), I.laidN (t' := s.toks) (fun b u hb => ?_) hgn (I.hok.gone hgn) ⟨hlen, out, ep, vals_of_ints k1, he⟩, rfl, q _ _ k2 k3 (I.hok.gone hgn)⟩
  have hb2 := keep b u hb
  have hlt : b < g.objs.size := Heap.lt_size hb2
  exact (sortedHeap_old (Nat.ne_of_lt hlt) (by rw [Heap.size_push]; exact Nat.lt_succ_of_lt hlt)).trans (Heap.get?_push_of_some _ hb2)
end
end Py

namespace Py
open PySem PySem.Spec PyProof.Rows L2
/-! ### t[::-1] of a tuple -/
theorem back_places (n : Nat) : Builtin.Slice.slicePlaces ((n : Int) - 1) (-1) (-1) = n := by
  unfold Builtin.Slice.slicePlaces
  have h1 : ¬ ((-1 : Int) > 0) := by omega
  have h2 : (-(-1) : Int) = 1 := rfl
  simp only [h1, if_false, h2, Int.ediv_one]
  split <;> omega
theorem fm_map {α β : Type} (f : α → Option β) (g : α → β) : ∀ l : List α, (∀ m ∈ l, f m = some (g m)) → l.filterMap f = l.map g
  | [], _ => rfl
  | a :: l, h => by
    rw [List.filterMap_cons, h a List.mem_cons_self, List.map_cons, fm_map f g l fun m hm => h m (List.mem_cons_of_mem _ hm)]
theorem back_pick (xs : Array Value) : ((List.range xs.size).filterMap fun (m : Nat) => xs[(((xs.size : Int) - 1) + (m : Int) * -1).toNat]?).toArray = xs.toList.reverse.toArray := by
  congr 1
  have e : ∀ m ∈ List.range xs.size, xs[(((xs.size : Int) - 1) + (m : Int) * -1).toNat]? = some (xs.toList.reverse.getD m .none) := by
    intro m hm
    rw [List.mem_range] at hm
    have ei : (((xs.size : Int) - 1) + (m : Int) * -1).toNat = xs.size - 1 - m := by omega
    rw [ei, List.getD, List.getElem?_reverse (by simpa using hm)]
    simp only [Array.length_toList, Array.getElem?_toList]
    rw [Array.getElem?_eq_getElem (by omega)]; rfl
  rw [fm_map _ _ _ e]
  refine List.ext_getElem (by simp) fun i h1 h2 => ?_
  simp only [List.getElem_map, List.getElem_range, List.getD]
  rw [List.getElem?_eq_getElem h2]; rfl
section
variable {prog : Program} {w : World} {A : Around} {E : Value → Shared → Prop} {s : Shared}
theorem applied_back {sl : Addr} {vl vu vs : Value} {n : Nat} {Q : Int × Int × Nat → Shared → Prop} (hs : s.heap.IsSliceOf sl vl vu vs) (pl : IsPart vl none) (pu : IsPart vu none) (ps : IsPart vs (some (-1)))
    (h : Q ((n : Int) - 1, -1, n) s) : wpAny (model prog w) A (Builtin.Slice.sliceApplied (.ref sl) (pure (n : Int))) Q E s := by
  obtain ⟨os, hos, hcs, hds⟩ := id hs
  unfold Builtin.Slice.sliceApplied Builtin.Slice.sliceFields
  refine wpAny_bind (wpAny_bind (wpAny_field hos hds (x := vl) rfl (wpAny_bind (wpAny_field hos hds (x := vu) rfl (wpAny_bind (wpAny_field hos hds (x := vs) rfl (wpAny_pure ?_)))))))
  refine wpAny_bind (HT.slicePart_ ps ?_)
  show wpAny _ _ (if ((-1 : Int) == 0) = true then _ else _) _ _ s
  rw [if_neg (by decide)]
  refine wpAny_bind (HT.slicePart_ pl (wpAny_bind (HT.slicePart_ pu (wpAny_bind (wpAny_pure ?_)))))
  show wpAny _ _ (pure ((n : Int) - 1, (-1 : Int), Builtin.Slice.slicePlaces ((n : Int) - 1) (-1) (-1))) _ _ s
  rw [back_places]
  exact wpAny_pure h
theorem tuple_back {t sl : Addr} {items : Array Value} {vl vu vs : Value} {Q : Value → Shared → Prop} (ht : IsTup s.heap t items) (hs : s.heap.IsSliceOf sl vl vu vs) (pl : IsPart vl none) (pu : IsPart vu none) (ps : IsPart vs (some (-1)))
    (h : Q (.ref s.heap.objs.size) { s with heap := s.heap.push { cls := .type "tuple", data := .seq items.toList.reverse.toArray } }) (hsz : items.size ≤ sizeLine) : wpAny (model prog w) A (getItem (.ref t) (.ref sl)) Q E s := by
  have hk : sizeOk (.seq items.toList.reverse.toArray) := by
    show items.toList.reverse.toArray.size ≤ sizeLine
    rw [List.size_toArray, List.length_reverse, Array.length_toList]
    exact hsz
  obtain ⟨os, hos, hcs, hds⟩ := id hs
  have hT : s.TypeIs (.ref sl) "slice" := ⟨os, hos, hcs⟩
  unfold getItem
  try with_reducible refine wpAny_holding ?_
  first | refine wpAny_bind (wpAny_pure ?_) | skip
  refine wpAny_bind (wpAny_sequenceKey ht.typeIs (by decide) ?_)
  refine wpAny_bind (wpAny_callSpecial?_slot (name := Str.ofString "__getitem__") ht.typeIs PyProof.Rows.slot_tuple_getitem
    (wpAny_call_entry PyProof.Rows.slot_tuple_getitem ht.typeIs entry_tuple_getitem ?_ (args_tuple_getitem _ _)))
  show wpAny _ _ (Builtin.Tuple.tupleItemsOf (.ref t) >>= _) _ _ s
  refine wpAny_bind (tupleItemsOf_ ht ?_)
  refine wpAny_bind (wpAny_typeOf hT ?_)
  rw [if_pos (by decide)]
  refine wpAny_bind (applied_back hs pl pu ps ?_)
  have hno : ¬ ((((items.size : Int) - 1) == 0 && (-1 : Int) == 1 && items.size == items.size) = true) := by
    intro q
    rw [Bool.and_eq_true, Bool.and_eq_true] at q
    exact absurd q.1.2 (by decide)
  show wpAny _ _ (if (((items.size : Int) - 1) == 0 && (-1 : Int) == 1 && items.size == items.size) = true then _ else _) _ _ s
  rw [if_neg hno, back_pick]
  first
    | exact wpAny_bind (m := Builtin.Tuple.tupleExact _) (wpAny_newObj_type (wpAny_pure ⟨_, rfl, wpAny_pure h⟩) hk)
    | exact wpAny_bind (m := Builtin.Tuple.tupleExact _) (wpAny_newObj_type (wpAny_bind (wpAny_pure (wpAny_pure ⟨_, rfl, wpAny_pure h⟩))) hk)
    | exact wpAny_bind (wpAny_bind (m := Builtin.Tuple.tupleExact _) (wpAny_newObj_type (wpAny_pure (wpAny_pure ⟨_, rfl, wpAny_pure h⟩)) hk))
    | exact wpAny_bind (wpAny_bind (m := Builtin.Tuple.tupleExact _) (wpAny_newObj_type (wpAny_pure ⟨_, rfl, wpAny_pure h⟩) hk))
end
section
variable {X : Cx}
/-- e[::-1], e a list or a tuple -/
def tBack (K : PySem.W.Frag) (te : TE) : TE := fun σ H Q => te σ H fun x H1 => (∃ a xs, x = .ref a ∧ SqL K H1 a xs ∧ ∀ p, H1 p = none → Q (.ref p) (upd H1 p (.lst xs.reverse))) ∨
  ∃ a xs, x = .ref a ∧ SqT K H1 a xs ∧ ∀ p, H1 p = none → Q (.ref p) (upd H1 p (.tup xs.reverse))
theorem pe_back {e : Expr} {te : TE} {k : Nat} {p1 p2 p3 pos : Pos} (he : PE X e te) : PE X (.Subscript e (.Slice none none (some (.UnaryOp .USub (.Constant (.int 1) k p1) p2)) p3) pos) (tBack X.K te) := by
  refine ⟨fun pins s σ H Q I h => ?_⟩
  refine Subscript_ (thn (he.run pins s σ H _ I h) fun v s1 ⟨x, H1, I1, r1, q1⟩ => ?_)
  have hst : PO X (some (.UnaryOp .USub (.Constant (.int 1) k p1) p2)) (tPart (tUn (rU fun i => .int (-i)) (tC (.int 1)))) := po_some (pe_un un_neg pe_int)
  refine wpAny_Slice (thn (po_none.run pins s1 σ H1 (fun o H2 => o = none ∧ H2 = H1) I1 ⟨rfl, rfl⟩) fun vl s2 ⟨l, H2, I2, pl, el, e2⟩ => ?_)
  subst el e2
  refine thn (po_none.run pins s2 σ H2 (fun o H3 => o = none ∧ H3 = H2) I2 ⟨rfl, rfl⟩) fun vu s3 ⟨u, H3, I3, pu, eu, e3⟩ => ?_
  subst eu e3
  refine thn (hst.run pins s3 σ H3 (fun o H4 => o = some (-1) ∧ H4 = H3) I3 ⟨1, rfl, -1, rfl, rfl, rfl⟩) fun vs s4 ⟨o, H4, I4, ps, eo, e4⟩ => ?_
  subst eo e4
  have I5 : Inv X pins σ H4 { s4 with heap := s4.heap.push { cls := .type "slice", data := .fields #[vl, vu, vs] } } := I4.kept (t' := s4.toks) fun b ob q => Heap.get?_push_of_some _ q
  rcases q1 with ⟨a, xs, ex, hx, q⟩ | ⟨a, xs, ex, hx, q⟩
  · subst ex
    cases r1
    obtain ⟨its, r, ht, hz⟩ := I5.list hx
    have hlen := r.length
    show wpAny (model X.prog X.w) X.A (subscriptTail e (.Slice none none (some (.UnaryOp .USub (.Constant (.int 1) k p1) p2)) p3) (.ref a) (.ref s4.heap.objs.size)) (EP X pins σ Q) X.xe { s4 with heap := s4.heap.push { cls := .type "slice", data := .fields #[vl, vu, vs] } }
    refine tail_any (ops := [.ref a, .ref s4.heap.objs.size]) ht.isList.typeIs (PySem.slot_list_getitem.lookup) ?_ (by with_unfolding_all rfl)
    refine wpAny_getItem_list_slice ht.isList (Heap.IsSliceOf.new _ vl vu vs) pl pu ps (by decide) ?_ (by rw [List.size_toArray]; omega)
    rw [PySem.W.krv_pick]
    refine ⟨.ref _, _, I5.laid (t' := s4.toks) (o := .lst xs.reverse) (fun b ob q => Heap.get?_push_of_some _ q) (Nat.le_refl _) ?_, rfl, q _ (I5.hok.fresh (Nat.le_refl _))⟩
    exact ⟨by rw [List.length_reverse]; exact hz, _, 0, r.reverse, Heap.get?_push_size _ rfl⟩
  · subst ex
    cases r1
    obtain ⟨its, r, ht, hz⟩ := I5.tuple hx
    have hlen := r.length
    show wpAny (model X.prog X.w) X.A (subscriptTail e (.Slice none none (some (.UnaryOp .USub (.Constant (.int 1) k p1) p2)) p3) (.ref a) (.ref s4.heap.objs.size)) (EP X pins σ Q) X.xe { s4 with heap := s4.heap.push { cls := .type "slice", data := .fields #[vl, vu, vs] } }
    refine tail_any (ops := [.ref a, .ref s4.heap.objs.size]) ht.typeIs PyProof.Rows.slot_tuple_getitem.lookup ?_ (by with_unfolding_all rfl)
    refine tuple_back ht (Heap.IsSliceOf.new _ vl vu vs) pl pu ps ?_ (by rw [List.size_toArray]; omega)
    have hr : Vals xs.reverse its.toArray.toList.reverse := by simpa using r.reverse
    refine ⟨.ref _, _, I5.laid (t' := s4.toks) (o := .tup xs.reverse) (fun b ob q => Heap.get?_push_of_some _ q) (Nat.le_refl _) ⟨by rw [List.length_reverse]; exact hz, _, hr, IsTup.new _ _⟩, rfl, q _ (I5.hok.fresh (Nat.le_refl _))⟩
end
end Py

namespace Py
open PySem PySem.Spec PyProof.Rows L2
/-! ### sets of texts -/
theorem perm_of_sub : ∀ (l m : List Str), l.Nodup → (∀ x ∈ l, x ∈ m) → m.length = l.length → m.Perm l
  | [], m, _, _, h => by
    rw [List.length_eq_zero_iff.mp h]
  | x :: l, m, nd, s, h => by
    obtain ⟨n1, n2⟩ := List.nodup_cons.mp nd
    have hx := s x List.mem_cons_self
    refine (List.perm_cons_erase hx).trans ((perm_of_sub l (m.erase x) n2 (fun y hy => ?_) ?_).cons x)
    · exact (List.mem_erase_of_ne (fun (e : y = x) => n1 (by rw [← e]; exact hy))).mpr (s y (List.mem_cons_of_mem _ hy))
    · rw [List.length_erase_of_mem hx, h]
      rfl
/-- the set of texts at a -/
def TxR (P : Program) (w : World) (h : Heap) (a : Addr) (l : List Str) : Prop :=
  ∃ D : Froz.SD, h.get? a = some (Froz.sObj "set" D) ∧ Froz.TxOk P w D l ∧ l.Nodup ∧ Ris D.2.2.place.toList ∧ (w.params.followText "set-order" = true ∨ D.2.2.led = true)
theorem TxR.at {P : Program} {w : World} {h h' : Heap} {a : Addr} {l : List Str} (R : TxR P w h a l) (k : ∀ o, h.get? a = some o → h'.get? a = some o) : TxR P w h' a l := by
  obtain ⟨D, ho, r⟩ := R
  exact ⟨D, k _ ho, r⟩
theorem tail_ris {w : World} {ep : Nat} {es1 : Array (Int × Value)} {t2 : SetTable} {wd : Bool} (r : Ris t2.place.toList) (l : w.params.followText "set-order" = true ∨ t2.led = true) :
    Ris (Froz.tailTx ep es1 t2 wd).2.2.place.toList ∧ (w.params.followText "set-order" = true ∨ (Froz.tailTx ep es1 t2 wd).2.2.led = true) := by
  unfold Froz.tailTx
  split
  · exact ⟨relayAll_ris t2 es1 _, l.imp id fun z => by show (relayAll t2 es1 _).2.1.led = true; rw [relayAll_led]; exact z⟩
  · exact ⟨r, l⟩
theorem add_ris {w : World} {hh : Int} {v : Value} {D : Froz.SD} (r : Ris D.2.2.place.toList) (l : w.params.followText "set-order" = true ∨ D.2.2.led = true) :
    Ris (Froz.addTx hh v D).2.2.place.toList ∧ (w.params.followText "set-order" = true ∨ (Froz.addTx hh v D).2.2.led = true) := by
  obtain ⟨es, ep, t⟩ := D
  have r1 := layNew_ris t es hh v r
  have l1 := layNew_led t es hh v
  unfold Froz.addTx
  refine tail_ris ?_ (l.imp id fun z => ?_)
  · show Ris (if (layNew t es hh v).2.1.plain = true then _ else _ : SetTable).place.toList
    split <;> exact r1
  · have z : t.led = true := z
    rw [← l1] at z
    show (if (layNew t es hh v).2.1.plain = true then _ else _ : SetTable).led = true
    split <;> exact z
section
variable {P : Program} {w : World} {A : Around} {E : Value → Shared → Prop} {s : Shared}
/-- add of a text that is there -/
theorem tx_old {a : Addr} {D : Froz.SD} {l : List Str} {k : Str} {u : Tok} {Q : Bool → Shared → Prop} (ho : s.heap.get? a = some (Froz.sObj "set" D)) (F : Froz.TxOk P w D l) (hk : k ∈ l) (hb : l.length < scanBound) (h : Q false s) :
    wpAny (model P w) A (setAddHashed a (.str k u) (hashStr w k)) Q E s := by
  obtain ⟨es, ep, t⟩ := D
  have hd : (Froz.sObj "set" (es, ep, t)).data = .set es ep t := rfl
  have hel : ElemsOf (strKind P w) es.toList := F.el
  have hsz : es.size = l.length := F.sz
  have hf : t.fits es.size = true := F.fit
  have hkey : (strKind P w).is k (.str k u) = true := Froz.is_str k u
  obtain ⟨e, he, q⟩ := (F.mem k).mp hk
  unfold setAddHashed setAddHashedIn
  refine wpAny_holding (wpAny_bind (wpAny_setState_of ho hd hf ?_))
  dsimp only
  rw [byScan_of rfl (by omega) hel]
  simp only [↓reduceIte]
  unfold setAddByScan
  refine wpAny_bind ?_
  refine wpAny_bind (wpAny_rule ?_)
  refine wpAny_bind (wpAny_setScan_of (knd := strKind P w) (k := k) hkey ho hd hf hel ?_)
  cases hr : List.findIdx? (fun e => (strKind P w).is k e.2) es.toList with
  | none =>
    have c := List.findIdx?_eq_none_iff.mp hr e he
    rw [q] at c
    cases c
  | some j =>
    dsimp only
    exact wpAny_pure (wpAny_pure h)
theorem tx_add {a : Addr} {l : List Str} {k : Str} {u : Tok} {Q : Bool → Shared → Prop} (R : TxR P w s.heap a l) (hb : l.length + 1 < scanBound)
    (hQ : ∀ b h' l', Heap.SameBut a s.heap h' → TxR P w h' a l' → (∀ x, x ∈ l' ↔ x = k ∨ x ∈ l) → l'.length ≤ l.length + 1 → Q b { s with heap := h' }) :
    wpAny (model P w) A (setAddHashed a (.str k u) (hashStr w k)) Q E s := by
  obtain ⟨D, ho, F, nd, r, ld⟩ := id R
  by_cases hk : k ∈ l
  · refine tx_old ho F hk (by omega) ?_
    exact hQ false s.heap l (Heap.SameBut.refl a s.heap) R (fun x => ⟨.inr, fun z => z.elim (fun e => e ▸ hk) id⟩) (by omega)
  · obtain ⟨r1, l1⟩ := add_ris (w := w) (hh := hashStr w k) (v := .str k u) r ld
    refine Froz.add_x ho F hk hb (hQ true _ (k :: l) (Heap.SameBut.update s.heap a _) ⟨_, Froz.get_upd _ ho rfl, Froz.add_ok u F, List.nodup_cons.mpr ⟨hk, nd⟩, r1, l1⟩ (fun x => List.mem_cons) (by simp))
theorem txR_new_at {h : Heap} {a : Addr} (ho : h.get? a = some (setNew w)) : TxR P w h a [] := by
  refine ⟨(#[], 0, .fresh 0 0 (!w.params.followText "set-order")), ho, Froz.TxOk.nil rfl, List.nodup_nil, List.Pairwise.nil, ?_⟩
  show _ ∨ (!w.params.followText "set-order") = true
  cases w.params.followText "set-order"
  · exact .inr rfl
  · exact .inl rfl
/-- a row of texts is put into a set -/
theorem tx_update {I : Addr} {fp wr : List Addr} {G : Array GenState → Array GenState → Prop} {n : Nat} {Pv : Nat → Value → Prop} {St : Nat → Shared → Prop} {R : Result → Shared → Prop}
    (W : WalksS P w A.in1 I fp wr G n Pv St) (S : Addr) (hSf : S ∉ fp) (ss : List Str) (hn : n = ss.length) (hb : ss.length + 1 < scanBound) (hval : ∀ i v, Pv i v → ∃ k t, ss[i]? = some k ∧ v = .str k t) :
    ∀ (k i : Nat) (s : Shared), n - i = k → i ≤ n → St i s → (∃ l, l.length ≤ i ∧ TxR P w s.heap S l ∧ ∀ x, x ∈ l ↔ x ∈ ss.take i) →
      (∀ s' l, Moved (S :: wr) G s s' → l.length ≤ n → TxR P w s'.heap S l → (∀ x, x ∈ l ↔ x ∈ ss) → R (.ok (.ret .none)) s') →
      codeAny (model P w) A (.builtin "set.update.loop" ⟨[.ref S, .ref I], []⟩) R s := by
  have hSw : S ∉ wr := fun h => hSf (W.sub _ h)
  have hsub : ∀ b ∈ wr, b ∈ S :: wr := fun b hb => List.mem_cons_of_mem _ hb
  intro k
  induction k with
  | zero =>
    intro i s hk' hi hst ⟨l, hc, hS, hm0⟩ hR
    have hin : i = n := by omega
    subst hin
    refine codeAny_builtin F.entry_set_update_loop ?_
    rw [Around.under_plainId F.plain_set_update_loop _]
    show wpAny _ A.in1 (pyNext (.ref I) >>= _) _ _ s
    refine wpAny_bind (W.done s _ _ hst fun s' hm => ?_)
    show wpAny _ A.in1 (ret Value.none) _ _ s'
    rw [List.take_of_length_le (by omega)] at hm0
    exact wpAny_pure (hR s' l (hm.mono hsub) hc (hS.at fun o e => hm.heap S o hSw e) hm0)
  | succ k ih =>
    intro i s hk' hi hst ⟨l, hc, hS, hm0⟩ hR
    have hlt : i < n := by omega
    refine codeAny_builtin F.entry_set_update_loop ?_
    rw [Around.under_plainId F.plain_set_update_loop _]
    show wpAny _ A.in1 (pyNext (.ref I) >>= _) _ _ s
    refine wpAny_bind (W.item i s _ _ hlt hst fun v s' hP hst' hm => ?_)
    obtain ⟨z, t, hz, rfl⟩ := hval i v hP
    have hS' : TxR P w s'.heap S l := hS.at fun o e => hm.heap S o hSw e
    show wpAny _ A.in1 (holding [Value.str z t] (setAdd S (.str z t)) >>= _) _ _ s'
    refine wpAny_bind (wpAny_holding ?_)
    unfold setAdd
    refine wpAny_holding ?_
    refine wpAny_bind ((strKind P w).pyHash (k := z) (Froz.is_str z t) ?_)
    refine tx_add (s := { s' with toks := s'.toks + 1 }) hS' (by omega) fun b h' l' hsb hS2 hm2 hl2 => ?_
    refine wpAny_pure ⟨plainId_quiet F.plain_set_update_loop _, ih (i + 1) _ (by omega) hlt (W.frame _ s' _ _ hst' (Nat.le_succ _) fun b hb o e => ?_) ⟨l', by omega, hS2, fun x => ?_⟩ fun s'' l2 hm'' hc'' hS'' hme => ?_⟩
    · rw [hsb.2 b (fun h : b = S => hSf (by rw [← h]; exact hb))]; exact e
    · rw [hm2, hm0, List.take_add_one, hz]
      simp [List.mem_append, or_comm]
    · refine hR s'' l2 (Moved.trans W.gtrans ((hm.mono hsub).then_heap (Nat.le_succ _) fun b o hb e => ?_) hm'') hc'' hS'' hme
      rw [hsb.2 b (fun h : b = S => hb (by rw [h]; exact List.mem_cons_self))]; exact e
theorem set_list_strs {l : Addr} {items : Array Value} (ns : List Str) {Q : Value → Shared → Prop} (hh : A.handled = none) (hl : s.heap.IsList l items) (hit : StrsAre items.toList ns) (hb : ns.length + 1 < scanBound)
    (h : ∀ (h' : Heap) (tk : Nat) (c : List Str), TxR P w h' s.heap.objs.size c → c.length ≤ ns.length → (∀ x, x ∈ c ↔ x ∈ ns) → (∀ b o, s.heap.get? b = some o → h'.get? b = some o) → Q (.ref s.heap.objs.size) { s with heap := h', toks := tk }) :
    wpAny (model P w) A (call (.type "set") [.ref l]) Q E s := by
  have hisz : items.size = ns.length := by
    have q := StrsAre.length hit
    rw [Array.length_toList] at q
    exact q
  obtain ⟨c, tl, hmro⟩ := F.called_set.mro
  have hmade := F.called_set.made
  have hsub := F.called_set.sub
  refine wpAny_call (codeAny_of_tree ?_)
  show wpAny _ _ (callAny (.type "set") _) _ _ _
  refine wpAny_pure ⟨Code.quiet_builtin _ (by decide +kernel), codeAny_builtin F.entry_type_call ?_⟩
  rw [Around.under_plain (weight_type_call_type "set" [.ref l] []) rfl]
  have h1 := F.called_set.notType
  have h2 := F.called_set.canCreate
  have hct := F.typeCall_set_1 (.ref l)
  repeat (any_goals (first | assumption | wp_step))

  refine codeAny_mono (code_set_led1 (.ref l) (E := E) (Q₁ := fun obj s₁ => obj = .ref s.heap.objs.size ∧ s₁ = { s with heap := sh w s }) ⟨rfl, rfl⟩) fun r s₁ hr => ?_
  cases r with
  | error e => exact hr
  | ok fl =>
    cases fl with
    | ret obj =>
      obtain ⟨rfl, rfl⟩ := hr
      have hS : (sh w s).get? s.heap.objs.size = some (setNew w) := Heap.get?_push_size _ rfl
      have hT : Shared.TypeIs { s with heap := sh w s } (.ref s.heap.objs.size) "set" := ⟨_, hS, rfl⟩
      have hli := F.called_set.init.lookup
      have hbi := F.called_set.init.bind (.ref s.heap.objs.size)
      repeat (any_goals (first | assumption | wp_step))

      refine codeAny_mono (codeAny_call_builtin (R := wants (fun r s₂ => r = .none ∧ ∃ h' tk c, s₂ = { s with heap := h', toks := tk } ∧ TxR P w h' s.heap.objs.size c ∧ c.length ≤ ns.length ∧ (∀ x, x ∈ c ↔ x ∈ ns) ∧
          (∀ b o, s.heap.get? b = some o → h'.get? b = some o)) E) F.called_set.init.plain F.entry_set_init (check_set_init_1 hT ?_)) fun r₂ s₂ hr₂ => ?_
      · obtain ⟨ol, hol, hcl, nl, hdl⟩ := hl
        obtain ⟨ocls, odict, odata, oslots⟩ := ol
        simp only at hcl hdl
        subst hcl; subst hdl
        have hol' : (sh w s).get? l = some { cls := .type "list", dict := odict, data := .seq items nl, slots := oslots } := Heap.get?_push_of_some _ hol
        have hsls := F.sub_list_set
        have hslf := F.sub_list_frozenset
        have hne : (Value.type "list" == Value.type "dict") = false := by decide
        have hl1 : (sh w s).IsList l items := ⟨_, hol', rfl, nl, rfl⟩
        unfold Builtin.«set.__init__» noKeywords Builtin.Frozenset.updateFrom
        generalize hPI : pyIter = PI
        wp_walk
        subst hPI

        refine wpAny_pyIter_list hl1 ?_
        refine wpAny_bind (wpAny_runValue ?_)
        have hlS : l < s.heap.objs.size := Heap.lt_size hol
        have hh3 : A.in1.in1.in1.handled = none := by simp [hh]
        have hz1 : (sh w s).objs.size = s.heap.objs.size + 1 := Heap.size_push ..
        have hneI : l ≠ (sh w s).objs.size := by
          rw [Heap.size_push]; exact Nat.ne_of_lt (Nat.lt_succ_of_lt hlS)
        have hSf : s.heap.objs.size ∉ [(sh w s).objs.size, l] := by
          rw [Heap.size_push]; simp only [List.mem_cons, List.mem_singleton, List.not_mem_nil, or_false, not_or]
          exact ⟨Nat.ne_of_lt (Nat.lt_succ_self _), Nat.ne_of_gt hlS⟩
        have hval : ∀ (i : Nat) (v : Value), items[i]? = some v → ∃ k t, ns[i]? = some k ∧ v = .str k t := fun i v hv => by
          have hi : i < ns.length := by rw [← hisz]; exact (Array.getElem?_eq_some_iff.mp hv).1
          obtain ⟨y, t, e, ey⟩ := PyProof.Rows.StrsAre.item hit i v (by rw [Array.getElem?_toList]; exact hv)
          exact ⟨y, t, ey, e⟩
        refine tx_update ((Walks.list hh3 _ l hneI items).toS) s.heap.objs.size
          hSf ns hisz hb hval (items.size - 0) 0 _ (by omega) (Nat.zero_le _)
          ⟨⟨_, Heap.get?_push_size _ rfl, rfl, rfl⟩, (hl1.push _)⟩ ?hS0 ?hR
        case hS0 =>
          have hget : ((sh w s).push { cls := .type "list_iterator", data := .fields #[.ref l, .int 0 0] }).get? s.heap.objs.size
              = some (setNew w) := Heap.get?_push_of_some _ hS
          exact ⟨[], Nat.le_refl 0, txR_new_at hget, fun x => by simp⟩
        case hR =>
          intro s' c' hm hc' hS' hmx
          obtain ⟨h', g2, d', tk', os'⟩ := s'
          have eg : g2 = s.gens := hm.gens
          have ed : d' = s.drawn := hm.drawn
          have eo : os' = s.os := hm.os
          subst eg; subst ed; subst eo
          show wpAny _ _ _ _ _ _
          refine wpAny_pure ?_
          show wpAny _ _ (ret Value.none) _ _ _
          rw [hisz] at hc'
          refine wpAny_pure ⟨rfl, h', tk', c', rfl, hS', hc', hmx, fun b o e => ?_⟩
          have hb0 : b < s.heap.objs.size := Heap.lt_size e
          have hb1 : b ≠ s.heap.objs.size := Nat.ne_of_lt hb0
          have hb2 : b ≠ (sh w s).objs.size := by
            rw [Heap.size_push]; exact Nat.ne_of_lt (Nat.lt_succ_of_lt hb0)
          exact hm.heap b o (by simp only [List.mem_cons, List.mem_singleton, List.not_mem_nil, or_false, not_or]; exact ⟨hb1, hb2⟩) (Heap.get?_push_of_some _ (Heap.get?_push_of_some _ e))

      · cases r₂ with
        | error e => exact hr₂
        | ok fl₂ =>
          cases fl₂ with
          | ret r =>
            obtain ⟨rfl, h', tk, c', rfl, hS', hc', hmx, hk'⟩ := hr₂
            repeat (any_goals (first | assumption | wp_step))
            exact h _ _ _ hS' hc' hmx hk'
          | _ => exact hr₂.elim
    | _ => exact hr.elim

theorem txs_out {es : Array (Int × Value)} {ep : Nat} {t : SetTable} {l : List Str} (F : Froz.TxOk P w (es, ep, t) l) (nd : l.Nodup) {vs : List Value} (pm : vs.Perm (es.toList.map (·.2))) : ∃ ks, StrsAre vs ks ∧ ks.Perm l := by
  have hmem : ∀ v, v ∈ vs → ∃ x t, v = Value.str x t ∧ x ∈ l := fun v hv => by
    obtain ⟨e, he, q⟩ := List.mem_map.mp (pm.mem_iff.mp hv)
    obtain ⟨⟨k, hk, _⟩, _⟩ := F.el e he
    obtain ⟨t, ev⟩ := Value.isStrOf_shape (x := k) (v := e.2) hk
    exact ⟨k, t, by rw [← q, ev], (F.mem k).mpr ⟨e, he, hk⟩⟩
  have hS := strsAre_map vs fun v hv => let ⟨x, t, e, _⟩ := hmem v hv; ⟨x, t, e⟩
  refine ⟨vs.map strOf, hS, ?_⟩
  have hl : (vs.map strOf).length = l.length := by rw [List.length_map, pm.length_eq, List.length_map, Array.length_toList]; exact F.sz
  have sub : ∀ x, x ∈ l → x ∈ vs.map strOf := fun x hx => by
    obtain ⟨e, he, hk⟩ := (F.mem x).mp hx
    obtain ⟨t, ev⟩ := Value.isStrOf_shape (x := x) (v := e.2) hk
    exact List.mem_map.mpr ⟨e.2, pm.mem_iff.mpr (List.mem_map_of_mem he), by rw [ev]; rfl⟩
  exact perm_of_sub l _ nd sub hl
/-- sorted of a set of texts -/
theorem sorted_txs {a : Addr} {l : List Str} {Q : Value → Shared → Prop} (R : TxR P w s.heap a l) (hh : A.handled = none) (h64 : l.length < 4000)
    (hQ : ∀ s' p (out : Array Value) (c : Nat) (us : List Str), (∀ b o, s.heap.get? b = some o → s'.heap.get? b = some o) → s'.gens = s.gens → s'.os = s.os → s.heap.objs.size ≤ p →
      s'.heap.get? p = some (seqObj "list" out c) → StrsAre out.toList us → sortedS us = true → us.Perm l → Q (.ref p) s') :
    wpAny (model P w) A (call (.builtin "sorted") [.ref a]) Q E s := by
  obtain ⟨⟨es, ep, t⟩, ho, F, nd, hr, hl⟩ := R
  have hsz : es.size = l.length := F.sz
  have hb : es.size < scanBound := by rw [hsz]; unfold scanBound; omega
  refine Calls.call_function_entry kind_sorted plain_sorted entry_sorted (args_sorted1 _) ?_
  unfold Builtin.«sorted»
  refine wpAny_bind (m := checkCount "sorted" 1 1 _) (wpAny_pure ?_)
  refine wpAny_bind (collect_set (A := A.in1) hh ⟨_, ho, rfl, rfl⟩ F.fit hb hr hl fun s1 vs k1 hz g1 o1 pm => ?_)
  have hvl : vs.length = l.length := by rw [pm.length_eq, List.length_map, Array.length_toList]; exact hsz
  have hS : ∃ ks, StrsAre vs ks ∧ ks.Perm l := txs_out F nd pm
  obtain ⟨ks, hS, pk⟩ := hS
  refine wpAny_bind (wpAny_newList ?_ (by rw [hvl, sizeLine_eq]; omega))
  have hoL : (s1.heap.push (seqObj "list" vs.toArray 0)).get? s1.heap.objs.size = some (seqObj "list" vs.toArray 0) := Heap.get?_push_size _ rfl
  refine wpAny_bind (wpAny_holding (wpAny_call_entry slot_list_sort ⟨_, hoL, rfl⟩ entry_list_sort (list_sort_treeKAny strKind_oneLt hoL hS.keysOf (fun v₁ v₂ rest e => keyKind_strs (by rw [← e]; exact hS)) (by rw [hvl, sizeLine_eq]; omega) fun st' hp hs => ⟨_, rfl, ?_⟩) (args_list_sort _)))
  obtain ⟨ns', a1, a2, a3⟩ := sorted_out_str hS hp hs
  generalize (arrOf st').map (·.2) = out at a1 ⊢
  obtain ⟨c, hc⟩ := sortedHeap_at (vs := vs) (out := out) hoL
  refine wpAny_pure ⟨_, rfl, hQ _ s1.heap.objs.size out c ns' (fun b u e => ?_) g1 o1 hz hc a1 a3 (a2.trans pk)⟩
  have q := k1 b u e
  have hlt := Heap.lt_size q
  show (sortedHeap (s1.heap.push (seqObj "list" vs.toArray 0)) s1.heap.objs.size vs out).get? b = some u
  rw [sortedHeap_old (Nat.ne_of_lt hlt) (by rw [size_push']; exact Nat.lt_succ_of_lt hlt)]
  exact Heap.get?_push_of_some _ q
end
section
variable {X : Cx}
def rSrtSetS (K : PySem.W.Frag) : V → Hp → VK → Prop := fun x H Q => ∃ (l : Addr) (ss : List Str), x = .ref l ∧ SqL K H l (ss.map V.str) ∧ ss.length < 4000 ∧ ∀ (p : Addr) (us : List Str),
  H p = none → sortedS us = true → us.Nodup → (∀ k, k ∈ us ↔ k ∈ ss) → Q (.ref p) (upd H p (.lst (us.map V.str)))
def rSrtSetA (K : PySem.W.Frag) (w : World) : V → Hp → VK → Prop := fun x H Q => rSrtSet K w x H Q ∨ rSrtSetS K x H Q
/-- sorted(set(a)), numbers or texts -/
theorem pe_srtSetA {a : Expr} {ta : TE} {p p2 q pos : Pos} (hc : X.calm = true) (hg : Gl X "sorted") (hm : X.mg "sorted" = none) (hg2 : Gl X "set") (hm2 : X.mg "set" = none) (ha : PE X a ta) (na : starEach [a] X.env = (false, eval a X.env) :: starEach [] X.env) :
    PE X (.Call (.Name "sorted" p) [.Call (.Name "set" p2) [a] [] q] [] pos) (fun σ H Q => ta σ H fun x H1 => rSrtSetA X.K X.w x H1 Q) := by
  refine ⟨fun pins s σ H Q I h => ?_⟩
  refine Call_ (ld_blt I hg hm boot_srt ?_ (by decide) (by decide))
  refine PyProof.Rows.callWith_builtin1 (PyProof.Rows.args_cons ?_ rfl) rfl rfl
  refine Call_ (ld_blt I hg2 hm2 boot_st ?_)
  refine PyProof.Rows.callWith_type1 (PyProof.Rows.args_cons (thn (ha.run pins s σ H _ I h) fun v s1 ⟨x, H1, I1, r1, q1⟩ => PyProof.Rows.args_nil ?_) na) na rfl
  rcases q1 with ⟨l, ns, ⟨rfl, hq, hl⟩, z⟩ | ⟨l, ss, rfl, hq, hl, z⟩
  · cases r1
    have fin : ∀ (s : Shared) (b : Addr) (c : Nat), H1 b = none → c ≤ ns.length → SetR X.w s.heap b (fun j => decide (j ∈ ns)) c → Inv X pins σ (withSet X.w H1 b ns c) s →
        wpAny (model X.prog X.w) X.A (call (.builtin "sorted") [.ref b]) (EP X pins σ Q) X.xe s := fun s b c hb hcn R I =>
      cr_sortedSet hc pins s σ _ [.ref b] [.ref b] Q I (.cons rfl .nil) ⟨b, _, c, rfl, upd_same, Nat.lt_of_le_of_lt hcn hl, fun us p hs hu _ hp => z b p c us hb hs (fun k => (hu k).trans mem_dec) hp⟩
    rcases hq with hq | hq
    · obtain ⟨its, rv, pl, hz⟩ := I1.list hq
      refine set_list_ints ns (I1.ok.hd hc) pl.isList (by simpa using vals_ints_S rv) (by unfold scanBound; omega) fun h' tk c R hcn k => ?_
      refine PyProof.Rows.args_nil ?_
      exact fin _ _ c (I1.hok.fresh (Nat.le_refl _)) hcn R (I1.laid (t' := tk) k (Nat.le_refl _) (setO_new R))
    · obtain ⟨its, rv, pl, hz⟩ := I1.tuple hq
      refine L2.call_set_tupI ns (I1.ok.hd hc) pl (by simpa using vals_ints_S rv) (by unfold scanBound; omega) fun h' tk c R hcn k => ?_
      refine PyProof.Rows.args_nil ?_
      exact fin _ _ c (I1.hok.fresh (Nat.le_refl _)) hcn R (I1.laid (t' := tk) k (Nat.le_refl _) (setO_new R))
  · cases r1
    obtain ⟨its, rv, pl, hz⟩ := I1.list hq
    refine set_list_strs ss (I1.ok.hd hc) pl.isList (by simpa using rv.strs) (by unfold scanBound; omega) fun h' tk c R hcn hm1 k => ?_
    refine PyProof.Rows.args_nil ?_
    have I2 : Inv X pins σ H1 { s1 with heap := h', toks := tk } := I1.kept k
    have nd : c.Nodup := by obtain ⟨_, _, _, nd, _⟩ := R; exact nd
    refine sorted_txs R (I2.ok.hd hc) (by omega) fun s' p out cc us k2 g o hp hgp hi hs hpm => ?_
    have hlen : (us.map V.str).length ≤ sizeLine := by rw [List.length_map, hpm.length_eq, sizeLine_eq]; omega
    have hn : H1 p = none := I2.hok.fresh hp
    have J : Inv X pins σ (upd H1 p (.lst (us.map V.str))) { s1 with heap := s'.heap, gens := s'.gens, drawn := s'.drawn, toks := s'.toks } :=
      Inv.call (s := { s1 with heap := h', toks := tk }) I2 (ch := []) (Un.laid k2 hp hn) (I2.hok.laid k2 hp ⟨hlen, out.toList, cc, vals_of_strs hi, hgp⟩) (by rw [g]; exact I2.bare) (fun _ z => nomatch z)
    have e : s' = { s1 with heap := s'.heap, gens := s'.gens, drawn := s'.drawn, toks := s'.toks } := by
      cases s'
      cases s1
      cases o
      rfl
    rw [e]
    exact ⟨.ref p, _, J, rfl, z p us hn hs (hpm.nodup_iff.mpr nd) fun k => (hpm.mem_iff).trans (hm1 k)⟩
end
end Py

namespace Py
open PySem PySem.Spec PyProof.Rows L2
/-! ### x in a list or tuple of data -/
section
variable {X : Cx}
/-- does this value hold data that equals dx? -/
noncomputable def hitsD (h : Heap) (dx : PyData) (y : Value) : Bool := @decide (∃ d as, Reads h y d as ∧ d.canLay0 = true ∧ PyData.eqv d dx = true) (Classical.propDecidable _)
theorem hitsD_of {h : Heap} {dx d : PyData} {y : Value} {as : List Addr} (r : Reads h y d as) (c : d.canLay0 = true) : hitsD h dx y = PyData.eqv d dx := by
  unfold hitsD
  cases e : PyData.eqv d dx with
  | true => exact @decide_eq_true _ (Classical.propDecidable _) ⟨d, as, r, c, e⟩
  | false =>
    refine @decide_eq_false _ (Classical.propDecidable _) ?_
    rintro ⟨d', as', r', c', e'⟩
    have := SeqAt.Reads.unique d' d y as' as c' r' r
    subst this
    rw [e] at e'
    cases e'
theorem hits_any {h : Heap} {dx : PyData} : ∀ {us : List Value} {ds : List PyData} {as : List Addr}, ReadsAll h us ds as → (∀ d ∈ ds, SeqAt.shaped d = true) → us.any (hitsD h dx) = ds.any fun d => PyData.eqv d dx
  | _, _, _, .nil, _ => rfl
  | _, _, _, .cons r rs, hs => by
    rw [List.any_cons, List.any_cons, hitsD_of r (SeqAt.canLay_of_shaped (hs _ List.mem_cons_self)), hits_any rs fun d hd => hs d (List.mem_cons_of_mem _ hd)]
theorem hits_at {A : Around} {s : Shared} {x : Value} {dx : PyData} {bs : List Addr} (rx : Reads s.heap x dx bs) (sx : SeqAt.shaped dx = true) (dp : dx.depth ≤ 60) (hu : A.units + 60 < cLine) : ∀ {us : List Value} {ds : List PyData} {as : List Addr}, ReadsAll s.heap us ds as → (∀ d ∈ ds, SeqAt.shaped d = true) → ∀ u ∈ us, SeqAt.EqAt A s u x (hitsD s.heap dx u)
  | _, _, _, .nil, _, u, hu => by cases hu
  | _, _, _, .cons r rs, hs, u, hm => by
    rcases List.mem_cons.mp hm with rfl | hm
    · have sd := hs _ List.mem_cons_self
      rw [hitsD_of r (SeqAt.canLay_of_shaped sd)]
      exact SeqAt.eqAt_reads _ _ _ _ _ _ _ _ r rx (SeqAt.canLay_of_shaped sd) (SeqAt.canLay_of_shaped sx) (Nat.lt_of_le_of_lt (Nat.add_le_add_left (Nat.le_trans (Nat.min_le_right _ _) dp) _) hu)
    · exact hits_at rx sx dp hu rs (fun d hd => hs d (List.mem_cons_of_mem _ hd)) u hm
def rInD (K : PySem.W.Frag) (neg : Bool) : R2 := fun x y H Q => ∃ (p : Addr) (xs : List V) (dx : PyData) (ds : List PyData), y = .ref p ∧ (SqL K H p xs ∨ SqT K H p xs) ∧ Dp K H x dx ∧ DpAll K H xs ds ∧ SeqAt.shaped dx = true ∧ dx.depth ≤ 60 ∧ (∀ d ∈ ds, SeqAt.shaped d = true) ∧
  Q (.bl (if neg then !(ds.any fun d => PyData.eqv d dx) else ds.any fun d => PyData.eqv d dx)) H
theorem units_in1 {A : Around} (hu : A.units + 64 < cLine) : A.in1.units + 60 < cLine := by
  have : A.in1.units ≤ A.units + 1 := Nat.le_refl _
  omega
theorem op_inD (hu : X.A.units + 64 < cLine) : OpR X (compareOp .In) (rInD X.K false) := by
  intro pins s σ H x y v u Q I rx ry h
  obtain ⟨p, xs, dx, ds, rfl, hq, hx, hd, sx, dp, sd, q⟩ := h
  cases ry
  obtain ⟨bs, r1⟩ := Dp.reads I dx x v hx rx
  rcases hq with hq | hq
  · obtain ⟨its, rv, pl, hz⟩ := I.list hq
    obtain ⟨as, r2⟩ := Dp.readsAll I ds xs its hd rv
    refine SeqAt.in_listAt (hitsD s.heap dx) pl.isList (fun w hw => hits_at r1 sx dp (units_in1 hu) r2 sd w (by simpa using hw)) ⟨.bl _, H, I, rfl, ?_⟩
    rw [show its.toArray.any (hitsD s.heap dx) = its.any (hitsD s.heap dx) by simp, hits_any r2 sd]
    exact q
  · obtain ⟨its, rv, pl, hz⟩ := I.tuple hq
    obtain ⟨as, r2⟩ := Dp.readsAll I ds xs its hd rv
    refine SeqAt.in_tupleAt (hitsD s.heap dx) pl (fun w hw => hits_at r1 sx dp (units_in1 hu) r2 sd w (by simpa using hw)) ⟨.bl _, H, I, rfl, ?_⟩
    rw [show its.toArray.any (hitsD s.heap dx) = its.any (hitsD s.heap dx) by simp, hits_any r2 sd]
    exact q
theorem op_notInD (hu : X.A.units + 64 < cLine) : OpR X (compareOp .NotIn) (rInD X.K true) := by
  intro pins s σ H x y v u Q I rx ry h
  obtain ⟨p, xs, dx, ds, rfl, hq, hx, hd, sx, dp, sd, q⟩ := h
  cases ry
  obtain ⟨bs, r1⟩ := Dp.reads I dx x v hx rx
  rcases hq with hq | hq
  · obtain ⟨its, rv, pl, hz⟩ := I.list hq
    obtain ⟨as, r2⟩ := Dp.readsAll I ds xs its hd rv
    refine SeqAt.notIn_listAt (hitsD s.heap dx) pl.isList (fun w hw => hits_at r1 sx dp (units_in1 hu) r2 sd w (by simpa using hw)) ⟨.bl _, H, I, rfl, ?_⟩
    rw [show its.toArray.any (hitsD s.heap dx) = its.any (hitsD s.heap dx) by simp, hits_any r2 sd]
    exact q
  · obtain ⟨its, rv, pl, hz⟩ := I.tuple hq
    obtain ⟨as, r2⟩ := Dp.readsAll I ds xs its hd rv
    refine SeqAt.notIn_tupleAt (hitsD s.heap dx) pl (fun w hw => hits_at r1 sx dp (units_in1 hu) r2 sd w (by simpa using hw)) ⟨.bl _, H, I, rfl, ?_⟩
    rw [show its.toArray.any (hitsD s.heap dx) = its.any (hitsD s.heap dx) by simp, hits_any r2 sd]
    exact q
end
end Py

namespace Py
open PySem PySem.Spec PyProof.Rows L2

/-- a value: tuples are trees, what can change stands at a place of the heap; tl, td: a list, a dict just made that nothing else holds -/
inductive D where
  | non | bl (b : Bool) | int (i : Int) | str (x : Str) | tup (xs : List D) | loc (a : Nat)
  | tl (xs : List D) | td (tk : Bool) (ks : List D) (vs : List D) | rl (xs : List D)
  deriving Inhabited
/-- what stands at a place -/
inductive DO where
  | lst (xs : List D) | dct (tk : Bool) (ks : List D) (vs : List D) | ins (c : Nat) (fs : List (Str × D))
  deriving Inhabited
abbrev Hd := List DO
abbrev Sd := List (Option D)

/-- a list that is never written: the script, one of the module's -/
def FzL (K : PySem.W.Frag) (H : Hp) (a : Addr) (xs : List V) : Prop :=
  (∃ o, H a = some (.frz o (.lst xs))) ∨
    ∃ (o : Obj) (its : Array Value) (n : Nat), K.lookup a = some o ∧ o.cls = .type "list" ∧ o.dict = none ∧ o.data = .seq its n ∧ its.size ≤ sizeLine ∧ Vals xs its.toList
theorem FzL.sq {K : PySem.W.Frag} {H : Hp} {a : Addr} {xs : List V} (h : FzL K H a xs) : SqL K H a xs := by
  rcases h with h | h
  · exact .inl (.inr h)
  · exact .inr h
section
variable (K : PySem.W.Frag) (H : Hp) (R : Nat → Addr) (n : Nat)
mutual
def R0 : D → V → Prop
  | .non, v => v = .non
  | .bl b, v => v = .bl b
  | .int i, v => v = .int i
  | .str x, v => v = .str x
  | .tup ds, v => ∃ a vs, v = .ref a ∧ SqT K H a vs ∧ R0s ds vs
  | .loc i, v => i < n ∧ v = .ref (R i)
  | .tl _, _ => False
  | .td _ _ _, _ => False
  | .rl ds, v => ∃ a vs, v = .ref a ∧ FzL K H a vs ∧ R0s ds vs
def R0s : List D → List V → Prop
  | [], vs => vs = []
  | d :: ds, vs => ∃ v r, vs = v :: r ∧ R0 d v ∧ R0s ds r
end
end
theorem R0s_len {K : PySem.W.Frag} {H : Hp} {R : Nat → Addr} {n : Nat} : ∀ {ds : List D} {vs : List V}, R0s K H R n ds vs → ds.length = vs.length
  | [], vs, h => by simp only [R0s] at h; subst h; rfl
  | d :: ds, vs, h => by
    simp only [R0s] at h
    obtain ⟨v, r, rfl, _, h2⟩ := h
    simp [R0s_len h2]

theorem R0s_get {K : PySem.W.Frag} {H : Hp} {R : Nat → Addr} {n : Nat} : ∀ {ds : List D} {vs : List V} {i : Nat} {d : D}, R0s K H R n ds vs → ds[i]? = some d → ∃ v, vs[i]? = some v ∧ R0 K H R n d v
  | [], vs, i, d, h, e => by simp at e
  | d :: ds, vs, i, x, h, e => by
    simp only [R0s] at h
    obtain ⟨v, r, rfl, h1, h2⟩ := h
    cases i with
    | zero => simp at e; subst e; exact ⟨v, rfl, h1⟩
    | succ i =>
      obtain ⟨u, hu, ru⟩ := R0s_get (i := i) h2 (by simpa using e)
      exact ⟨u, by simpa using hu, ru⟩
theorem R0s_append {K : PySem.W.Frag} {H : Hp} {R : Nat → Addr} {n : Nat} : ∀ {ds es : List D} {vs us : List V}, R0s K H R n ds vs → R0s K H R n es us → R0s K H R n (ds ++ es) (vs ++ us)
  | [], es, vs, us, h, h' => by simp only [R0s] at h; subst h; exact h'
  | d :: ds, es, vs, us, h, h' => by
    simp only [R0s] at h
    obtain ⟨v, r, rfl, h1, h2⟩ := h
    simp only [List.cons_append, R0s]
    exact ⟨v, r ++ us, rfl, h1, R0s_append h2 h'⟩
theorem R0s_take {K : PySem.W.Frag} {H : Hp} {R : Nat → Addr} {n : Nat} : ∀ {ds : List D} {vs : List V} (k : Nat), R0s K H R n ds vs → R0s K H R n (ds.take k) (vs.take k)
  | [], vs, k, h => by simp only [R0s] at h; subst h; simp [R0s]
  | d :: ds, vs, 0, h => by simp [R0s]
  | d :: ds, vs, k + 1, h => by
    simp only [R0s] at h
    obtain ⟨v, r, rfl, h1, h2⟩ := h
    simp only [List.take_succ_cons, R0s]
    exact ⟨v, _, rfl, h1, R0s_take k h2⟩
theorem R0s_drop {K : PySem.W.Frag} {H : Hp} {R : Nat → Addr} {n : Nat} : ∀ {ds : List D} {vs : List V} (k : Nat), R0s K H R n ds vs → R0s K H R n (ds.drop k) (vs.drop k)
  | [], vs, k, h => by simp only [R0s] at h; subst h; simp [R0s]
  | d :: ds, vs, 0, h => h
  | d :: ds, vs, k + 1, h => by
    simp only [R0s] at h
    obtain ⟨v, r, rfl, h1, h2⟩ := h
    exact R0s_drop k h2
theorem R0s_set {K : PySem.W.Frag} {H : Hp} {R : Nat → Addr} {n : Nat} {x : D} {u : V} (hx : R0 K H R n x u) : ∀ {ds : List D} {vs : List V} (k : Nat), R0s K H R n ds vs → R0s K H R n (ds.set k x) (vs.set k u)
  | [], vs, k, h => by simp only [R0s] at h; subst h; simp [R0s]
  | d :: ds, vs, 0, h => by
    simp only [R0s] at h
    obtain ⟨v, r, rfl, h1, h2⟩ := h
    simp only [List.set_cons_zero, R0s]
    exact ⟨u, r, rfl, hx, h2⟩
  | d :: ds, vs, k + 1, h => by
    simp only [R0s] at h
    obtain ⟨v, r, rfl, h1, h2⟩ := h
    simp only [List.set_cons_succ, R0s]
    exact ⟨v, _, rfl, h1, R0s_set hx k h2⟩
theorem R0s_one {K : PySem.W.Frag} {H : Hp} {R : Nat → Addr} {n : Nat} {x : D} {u : V} (hx : R0 K H R n x u) : R0s K H R n [x] [u] := by
  simp only [R0s]; exact ⟨u, [], rfl, hx, rfl⟩
theorem R0s_eraseIdx {K : PySem.W.Frag} {H : Hp} {R : Nat → Addr} {n : Nat} : ∀ {ds : List D} {vs : List V} (k : Nat), R0s K H R n ds vs → R0s K H R n (ds.eraseIdx k) (vs.eraseIdx k)
  | [], vs, k, h => by simp only [R0s] at h; subst h; simp [R0s]
  | d :: ds, vs, 0, h => by
    simp only [R0s] at h
    obtain ⟨v, r, rfl, h1, h2⟩ := h
    exact h2
  | d :: ds, vs, k + 1, h => by
    simp only [R0s] at h
    obtain ⟨v, r, rfl, h1, h2⟩ := h
    simp only [List.eraseIdx_cons_succ, R0s]
    exact ⟨v, _, rfl, h1, R0s_eraseIdx k h2⟩
theorem R0s_dropLast {K : PySem.W.Frag} {H : Hp} {R : Nat → Addr} {n : Nat} {ds : List D} {vs : List V} (h : R0s K H R n ds vs) : R0s K H R n ds.dropLast vs.dropLast := by
  rw [List.dropLast_eq_take, List.dropLast_eq_take, R0s_len h]; exact R0s_take _ h
theorem R0s_reverse {K : PySem.W.Frag} {H : Hp} {R : Nat → Addr} {n : Nat} : ∀ {ds : List D} {vs : List V}, R0s K H R n ds vs → R0s K H R n ds.reverse vs.reverse
  | [], vs, h => by simp only [R0s] at h; subst h; simp [R0s]
  | d :: ds, vs, h => by
    simp only [R0s] at h
    obtain ⟨v, r, rfl, h1, h2⟩ := h
    simp only [List.reverse_cons]
    exact R0s_append (R0s_reverse h2) (R0s_one h1)
theorem R0s_flat {K : PySem.W.Frag} {H : Hp} {R : Nat → Addr} {n : Nat} {ds : List D} {vs : List V} (h : R0s K H R n ds vs) : ∀ k : Nat, R0s K H R n (List.replicate k ds).flatten (List.replicate k vs).flatten
  | 0 => by simp [R0s]
  | k + 1 => by
    simp only [List.replicate_succ, List.flatten_cons]
    exact R0s_append h (R0s_flat h k)

mutual
theorem R0_mono {K : PySem.W.Frag} {H H' : Hp} {R R' : Nat → Addr} {n n' : Nat} (hf : ∀ a vs, FzL K H a vs → FzL K H' a vs) (ht : ∀ a vs, SqT K H a vs → SqT K H' a vs) (hR : ∀ i, i < n → i < n' ∧ R' i = R i) : ∀ (d : D) (v : V), R0 K H R n d v → R0 K H' R' n' d v
  | .non, v, h => h
  | .bl _, v, h => h
  | .int _, v, h => h
  | .str _, v, h => h
  | .tup ds, v, h => by
    simp only [R0] at h ⊢
    obtain ⟨a, vs, e, h1, h2⟩ := h
    exact ⟨a, vs, e, ht _ _ h1, R0s_mono hf ht hR ds vs h2⟩
  | .loc i, v, h => by
    simp only [R0] at h ⊢
    exact ⟨(hR i h.1).1, by rw [(hR i h.1).2]; exact h.2⟩
  | .tl _, v, h => h
  | .td _ _ _, v, h => h
  | .rl ds, v, h => by
    simp only [R0] at h ⊢
    obtain ⟨a, vs, e, h1, h2⟩ := h
    exact ⟨a, vs, e, hf _ _ h1, R0s_mono hf ht hR ds vs h2⟩
theorem R0s_mono {K : PySem.W.Frag} {H H' : Hp} {R R' : Nat → Addr} {n n' : Nat} (hf : ∀ a vs, FzL K H a vs → FzL K H' a vs) (ht : ∀ a vs, SqT K H a vs → SqT K H' a vs) (hR : ∀ i, i < n → i < n' ∧ R' i = R i) : ∀ (ds : List D) (vs : List V), R0s K H R n ds vs → R0s K H' R' n' ds vs
  | [], vs, h => by simp only [R0s] at h ⊢; exact h
  | d :: ds, vs, h => by
    simp only [R0s] at h ⊢
    obtain ⟨v, r, e, h1, h2⟩ := h
    exact ⟨v, r, e, R0_mono hf ht hR d v h1, R0s_mono hf ht hR ds r h2⟩
end

-- all places within lie below n
mutual
def D.clean (n : Nat) : D → Prop
  | .non => True
  | .bl _ => True
  | .int _ => True
  | .str _ => True
  | .tup ds => D.cleans n ds
  | .loc i => i < n
  | .tl ds => D.cleans n ds
  | .td _ ks vs => D.cleans n ks ∧ D.cleans n vs
  | .rl ds => D.cleans n ds
def D.cleans (n : Nat) : List D → Prop
  | [] => True
  | d :: ds => D.clean n d ∧ D.cleans n ds
end
mutual
theorem R0_clean {K : PySem.W.Frag} {H : Hp} {R : Nat → Addr} {n m : Nat} : ∀ (d : D) (v : V), D.clean m d → R0 K H R n d v → R0 K H R m d v
  | .non, v, _, h => h
  | .bl _, v, _, h => h
  | .int _, v, _, h => h
  | .str _, v, _, h => h
  | .tup ds, v, c, h => by
    simp only [R0] at h ⊢
    simp only [D.clean] at c
    obtain ⟨a, vs, e, h1, h2⟩ := h
    exact ⟨a, vs, e, h1, R0s_clean ds vs c h2⟩
  | .loc i, v, c, h => by
    simp only [R0] at h ⊢
    simp only [D.clean] at c
    exact ⟨c, h.2⟩
  | .tl _, v, _, h => h
  | .td _ _ _, v, _, h => h
  | .rl ds, v, c, h => by
    simp only [R0] at h ⊢
    simp only [D.clean] at c
    obtain ⟨a, vs, e, h1, h2⟩ := h
    exact ⟨a, vs, e, h1, R0s_clean ds vs c h2⟩
theorem R0s_clean {K : PySem.W.Frag} {H : Hp} {R : Nat → Addr} {n m : Nat} : ∀ (ds : List D) (vs : List V), D.cleans m ds → R0s K H R n ds vs → R0s K H R m ds vs
  | [], vs, _, h => by simp only [R0s] at h ⊢; exact h
  | d :: ds, vs, c, h => by
    simp only [R0s] at h ⊢
    simp only [D.cleans] at c
    obtain ⟨v, r, e, h1, h2⟩ := h
    exact ⟨v, r, e, R0_clean d v c.1 h1, R0s_clean ds r c.2 h2⟩
end

def keyD : Key → D
  | .inl i => .int i
  | .inr x => .str x
def DO.clean (n : Nat) : DO → Prop
  | .lst xs => D.cleans n xs
  | .dct _ _ vs => D.cleans n vs
  | .ins _ fs => D.cleans n (fs.map (·.2))

section
variable (K : PySem.W.Frag) (H : Hp) (R : Nat → Addr) (n : Nat)
def dcRel (tk : Bool) (ks vs : List D) (o : Option HO) : Prop :=
  (tk = false ∧ ∃ kvs : List (Key × V), o = some (.dK kvs) ∧ ks = kvs.map (fun p => keyD p.1) ∧ R0s K H R n vs (kvs.map (·.2))) ∨
  (tk = true ∧ ∃ kvs : List (List Key × V), o = some (.dT kvs) ∧ ks = kvs.map (fun p => D.tup (p.1.map keyD)) ∧ R0s K H R n vs (kvs.map (·.2)))
def ORel (a : Addr) : DO → Prop
  | .lst ds => ∃ vs, H a = some (.lst vs) ∧ R0s K H R n ds vs
  | .dct tk ks vs => dcRel K H R n tk ks vs (H a)
  | .ins _ _ => False
structure HRel (h : Hd) : Prop where
  inj : ∀ i j, i < h.length → j < h.length → R i = R j → i = j
  obj : ∀ i o, h[i]? = some o → ORel K H R h.length (R i) o
/-- a value as an expression gives it: G, the heap at the expression's start -/
def RT (G : Hp) : D → V → Prop
  | .tl ds, v => ∃ a vs, v = .ref a ∧ G a = none ∧ H a = some (.lst vs) ∧ R0s K H R n ds vs ∧ ∀ i, i < n → R i ≠ a
  | .td tk ks ws, v => ∃ a, v = .ref a ∧ G a = none ∧ dcRel K H R n tk ks ws (H a) ∧ ∀ i, i < n → R i ≠ a
  | d, v => R0 K H R n d v
end
/-- from one heap to a later one -/
structure Ext (K : PySem.W.Frag) (R : Nat → Addr) (h : Hd) (H : Hp) (R' : Nat → Addr) (h' : Hd) (H' : Hp) : Prop where
  len : h.length ≤ h'.length
  agr : ∀ i, i < h.length → R' i = R i
  fresh : ∀ i, h.length ≤ i → i < h'.length → H (R' i) = none
  frame : ∀ a o, H a = some o → (∀ i, i < h.length → R i ≠ a) → H' a = some o
  stay : ∀ a o, H a = some o → ∃ o', H' a = some o'
  tup : ∀ a vs, SqT K H a vs → SqT K H' a vs
  frz : ∀ a vs, FzL K H a vs → FzL K H' a vs
/-- what is wanted of exceptions that leave: x, by values; E, by HandS's; cls, the class of a number -/
structure Lnk where
  x : Nat → Hd → Prop
  E : XK
  cls : Nat → Value
def XPost (L : Lnk) (K : PySem.W.Frag) (H : Hp) (R : Nat → Addr) (n : Nat) : Prop := ∀ h : Hd, h.length = n → ∀ R' h' H' c, Ext K R h H R' h' H' → HRel K H' R' h' → L.x c h' → L.E (L.cls c) none H'
structure SRel (L : Lnk) (K : PySem.W.Frag) (H : Hp) (R : Nat → Addr) (n : Nat) (τ : Sd) (σ : L2.St) : Prop where
  len : τ.length = σ.length
  at_ : ∀ (i : Nat) (d : D), τ[i]? = some (some d) → ∃ v, σ[i]? = some (some v) ∧ R0 K H R n d v
  xp : XPost L K H R n

theorem Ext.refl {K : PySem.W.Frag} {R : Nat → Addr} {h : Hd} {H : Hp} : Ext K R h H R h H :=
  ⟨Nat.le_refl _, fun _ _ => rfl, fun i h1 h2 => absurd h2 (Nat.not_lt.mpr h1), fun _ _ e _ => e, fun _ o e => ⟨o, e⟩, fun _ _ e => e, fun _ _ e => e⟩
section
variable {K : PySem.W.Frag} {R R1 R2 : Nat → Addr} {h h1 h2 : Hd} {H H1 H2 : Hp}
theorem Ext.trans (a : Ext K R h H R1 h1 H1) (b : Ext K R1 h1 H1 R2 h2 H2) : Ext K R h H R2 h2 H2 where
  len := Nat.le_trans a.len b.len
  agr := fun i hi => (b.agr i (Nat.lt_of_lt_of_le hi a.len)).trans (a.agr i hi)
  fresh := fun i z1 z2 => by
    by_cases hi : i < h1.length
    · rw [b.agr i hi]; exact a.fresh i z1 hi
    · have n1 := b.fresh i (Nat.not_lt.mp hi) z2
      cases q : H (R2 i) with
      | none => rfl
      | some o =>
        obtain ⟨o', e⟩ := a.stay _ o q
        rw [n1] at e; cases e
  frame := fun x o e n => by
    refine b.frame x o (a.frame x o e n) fun i hi z => ?_
    by_cases hl : i < h.length
    · exact n i hl ((a.agr i hl).symm.trans z)
    · have := a.fresh i (Nat.not_lt.mp hl) hi
      rw [z, e] at this; cases this
  stay := fun x o e => by
    obtain ⟨o', e'⟩ := a.stay x o e
    exact b.stay x o' e'
  tup := fun x vs e => b.tup x vs (a.tup x vs e)
  frz := fun x vs e => b.frz x vs (a.frz x vs e)
theorem Ext.none_of (e : Ext K R h H R1 h1 H1) {a : Addr} (q : H1 a = none) : H a = none := by
  cases z : H a with
  | none => rfl
  | some o =>
    obtain ⟨o', e'⟩ := e.stay _ o z
    rw [q] at e'; cases e'
theorem Ext.r0 (e : Ext K R h H R1 h1 H1) {d : D} {v : V} (r : R0 K H R h.length d v) : R0 K H1 R1 h1.length d v :=
  R0_mono e.frz e.tup (fun i hi => ⟨Nat.lt_of_lt_of_le hi e.len, e.agr i hi⟩) d v r
theorem Ext.r0s (e : Ext K R h H R1 h1 H1) {d : List D} {v : List V} (r : R0s K H R h.length d v) : R0s K H1 R1 h1.length d v :=
  R0s_mono e.frz e.tup (fun i hi => ⟨Nat.lt_of_lt_of_le hi e.len, e.agr i hi⟩) d v r
theorem Ext.relen (e : Ext K R h H R1 h1 H1) {g : Hd} (hl : g.length = h.length) : Ext K R g H R1 h1 H1 :=
  ⟨by rw [hl]; exact e.len, fun i hi => e.agr i (by rw [← hl]; exact hi), fun i a b => e.fresh i (by rw [← hl]; exact a) b, fun a o q n => e.frame a o q fun i hi => n i (by rw [hl]; exact hi), e.stay, e.tup, e.frz⟩
theorem XPost.on {L : Lnk} (p : XPost L K H R h.length) (e : Ext K R h H R1 h1 H1) : XPost L K H1 R1 h1.length :=
  fun g hg R' h' H' c e' hr q => p h rfl R' h' H' c (e.trans (e'.relen hg.symm)) hr q
theorem Ext.srel {L : Lnk} (e : Ext K R h H R1 h1 H1) {τ : Sd} {σ : L2.St} (r : SRel L K H R h.length τ σ) : SRel L K H1 R1 h1.length τ σ :=
  ⟨r.len, fun i d q => let ⟨v, a, b⟩ := r.at_ i d q; ⟨v, a, e.r0 b⟩, r.xp.on e⟩
/-- a new entry's place is not one that stood -/
theorem Ext.ne (e : Ext K R h H R1 h1 H1) {a : Addr} {o : HO} (q : H a = some o) (n : ∀ i, i < h.length → R i ≠ a) : ∀ i, i < h1.length → R1 i ≠ a := fun i hi z => by
  by_cases hl : i < h.length
  · exact n i hl ((e.agr i hl).symm.trans z)
  · have := e.fresh i (Nat.not_lt.mp hl) hi
    rw [z, q] at this; cases this
theorem dcRel.ext (e : Ext K R h H R1 h1 H1) {tk : Bool} {ks vs : List D} {o : Option HO} (r : dcRel K H R h.length tk ks vs o) : dcRel K H1 R1 h1.length tk ks vs o := by
  rcases r with ⟨t, kvs, a, b, c⟩ | ⟨t, kvs, a, b, c⟩
  · exact .inl ⟨t, kvs, a, b, e.r0s c⟩
  · exact .inr ⟨t, kvs, a, b, e.r0s c⟩
/-- a value stays while something else is reckoned -/
theorem Ext.rt (e : Ext K R h H R1 h1 H1) {G : Hp} {d : D} {v : V} (r : RT K H R h.length G d v) : RT K H1 R1 h1.length G d v := by
  cases d with
  | tl ds =>
    obtain ⟨a, vs, e1, n, q, r, ne⟩ := r
    exact ⟨a, vs, e1, n, e.frame a _ q ne, e.r0s r, e.ne q ne⟩
  | td tk ks ws =>
    obtain ⟨a, e1, n, q, ne⟩ := r
    have hs : ∃ o, H a = some o := by
      rcases q with ⟨_, kvs, a, _⟩ | ⟨_, kvs, a, _⟩ <;> exact ⟨_, a⟩
    obtain ⟨o, ho⟩ := hs
    refine ⟨a, e1, n, ?_, e.ne ho ne⟩
    rw [e.frame a _ ho ne, ← ho]
    exact q.ext e
  | _ => exact e.r0 r
/-- .. told from an earlier start -/
theorem RT.from (g : ∀ a, H a = none → H2 a = none) {R : Nat → Addr} {n : Nat} {d : D} {v : V} (r : RT K H1 R n H d v) : RT K H1 R n H2 d v := by
  cases d with
  | tl ds =>
    obtain ⟨a, vs, e1, n, q⟩ := r
    exact ⟨a, vs, e1, g _ n, q⟩
  | td tk ks ws =>
    obtain ⟨a, e1, n, q⟩ := r
    exact ⟨a, e1, g _ n, q⟩
  | _ => exact r
theorem RT.of {G : Hp} {R : Nat → Addr} {n : Nat} {d : D} {v : V} (r : R0 K H R n d v) : RT K H R n G d v := by
  cases d with
  | tl ds => simp only [R0] at r
  | td tk ks ws => simp only [R0] at r
  | _ => exact r

/-- what is wanted behind an expression -/
def Post (K : PySem.W.Frag) (R : Nat → Addr) (h : Hd) (H : Hp) (P : D → Hd → Prop) (Q : VK) : Prop :=
  ∀ R' h' H' d v, Ext K R h H R' h' H' → HRel K H' R' h' → RT K H' R' h'.length H d v → P d h' → Q v H'
theorem Post.on {P : D → Hd → Prop} {Q : VK} (p : Post K R h H P Q) (e : Ext K R h H R1 h1 H1) : Post K R1 h1 H1 P Q :=
  fun R' h' H' d v e' hr rt q => p R' h' H' d v (e.trans e') hr (rt.from fun _ => e.none_of) q
end

abbrev TEd := Sd → Hd → (D → Hd → Prop) → Prop
abbrev TTd := Sd → Hd → (Bool → Hd → Prop) → Prop
abbrev TAd := Sd → Hd → (List D → Hd → Prop) → Prop
structure Endd where
  nx : Sd → Hd → Prop
  rt : D → Hd → Prop
  bk : Sd → Hd → Prop
  ct : Sd → Hd → Prop
abbrev TSd := Endd → Sd → Hd → Prop
/-- a reading over values as a reading over HandS's -/
def lift (L : Lnk) (K : PySem.W.Frag) (t : TEd) : TE := fun σ H Q => ∃ R τ h P, SRel L K H R h.length τ σ ∧ HRel K H R h ∧ t τ h P ∧ Post K R h H P Q
def liftT (L : Lnk) (K : PySem.W.Frag) (t : TTd) : TT := fun σ H Q => ∃ R τ h P, SRel L K H R h.length τ σ ∧ HRel K H R h ∧ t τ h P ∧
  ∀ R' h' H' b, Ext K R h H R' h' H' → HRel K H' R' h' → P b h' → Q b H'
def liftS (L : Lnk) (K : PySem.W.Frag) (t : TSd) : TS := fun Z σ H => ∃ R τ h, ∃ P : Endd, SRel L K H R h.length τ σ ∧ HRel K H R h ∧ t P τ h ∧
  (∀ R' h' H' τ' σ', Ext K R h H R' h' H' → HRel K H' R' h' → SRel L K H' R' h'.length τ' σ' → P.nx τ' h' → Z.nx σ' H') ∧
  (∀ R' h' H' d v, Ext K R h H R' h' H' → HRel K H' R' h' → RT K H' R' h'.length H d v → P.rt d h' → Z.rt v H') ∧
  (∀ R' h' H' τ' σ', Ext K R h H R' h' H' → HRel K H' R' h' → SRel L K H' R' h'.length τ' σ' → P.bk τ' h' → Z.bk σ' H') ∧
  (∀ R' h' H' τ' σ', Ext K R h H R' h' H' → HRel K H' R' h' → SRel L K H' R' h'.length τ' σ' → P.ct τ' h' → Z.ct σ' H')

theorem PE.imp {X : Cx} {e : Expr} {t u : TE} (p : PE X e t) (h : ∀ σ H Q, u σ H Q → t σ H Q) : PE X e u := ⟨fun pins s σ H Q I w => p.run pins s σ H Q I (h _ _ _ w)⟩
theorem PT.imp {X : Cx} {e : Expr} {t u : TT} (p : PT X e t) (h : ∀ σ H Q, u σ H Q → t σ H Q) : PT X e u := ⟨fun pins s σ H Q I w => p.run pins s σ H Q I (h _ _ _ w)⟩
theorem PA.imp {X : Cx} {e : List Expr} {t u : TA} (p : PA X e t) (h : ∀ σ H Q, u σ H Q → t σ H Q) : PA X e u := ⟨fun po pins s σ H Q I w => p.run po pins s σ H Q I (h _ _ _ w)⟩
theorem PS.imp {X : Cx} {e : Stmt} {t u : TS} (p : PS X e t) (h : ∀ Z σ H, u Z σ H → t Z σ H) : PS X e u := ⟨fun pins s σ H Q I w => p.run pins s σ H Q I (h _ _ _ w)⟩
theorem PSs.imp {X : Cx} {e : List Stmt} {t u : TS} (p : PSs X e t) (h : ∀ Z σ H, u Z σ H → t Z σ H) : PSs X e u := ⟨fun pins s σ H Q I w => p.run pins s σ H Q I (h _ _ _ w)⟩
end Py

namespace Py
open PySem PySem.Spec PyProof.Rows L2

abbrev PD := D → Hd → Prop
/-- what a list, or a tuple or list, holds -/
def lstOf (h : Hd) : D → Option (List D)
  | .tl xs => some xs
  | .loc a => match h[a]? with
    | some (.lst xs) => some xs
    | _ => none
  | .rl xs => some xs
  | _ => none
def seqOf (h : Hd) : D → Option (List D)
  | .tup xs => some xs
  | d => lstOf h d

-- data without places
mutual
def D.pure : D → Bool
  | .tup xs => D.pures xs
  | .loc _ => false
  | .tl _ => false
  | .td _ _ _ => false
  | .rl _ => false
  | _ => true
def D.pures : List D → Bool
  | [] => true
  | d :: ds => D.pure d && D.pures ds
end
mutual
def D.pd : D → PyData
  | .non => .none
  | .bl b => .bool b
  | .int i => .int i
  | .str x => .str x
  | .tup xs => .tuple (D.pds xs)
  | .loc _ => .none
  | .tl _ => .none
  | .td _ _ _ => .none
  | .rl _ => .none
def D.pds : List D → List PyData
  | [] => []
  | d :: ds => D.pd d :: D.pds ds
end
/-- a list that is not the script -/
def mutOf (h : Hd) : D → Option (List D)
  | .rl _ => none
  | d => lstOf h d
/-- the data that a value is now -/
def snap (h : Hd) (d : D) : Option PyData :=
  if d.pure then some d.pd else match lstOf h d with
    | some xs => if D.pures xs then some (.list (D.pds xs)) else none
    | none => none

/-! ### operators by values -/
def addW (x y : D) (h : Hd) (Q : PD) : Prop := match x, y with
  | .int i, .int j => Q (.int (i + j)) h
  | .str a, .str b => a.length + b.length ≤ sizeLine ∧ Q (.str (a ++ b)) h
  | .tup a, .tup b => a.length + b.length ≤ sizeLine ∧ Q (.tup (a ++ b)) h
  | x, y => match mutOf h x, mutOf h y with
    | some a, some b => a.length + b.length ≤ sizeLine ∧ Q (.tl (a ++ b)) h
    | _, _ => False
def subW (x y : D) (h : Hd) (Q : PD) : Prop := match x, y with
  | .int i, .int j => Q (.int (i - j)) h
  | _, _ => False
/-- sizes of a product's factors -/
def mulOk (i j : Int) : Prop := CMul i j ∨ CMulW i j
def mulW (x y : D) (h : Hd) (Q : PD) : Prop := match x, y with
  | .int i, .int j => mulOk i j ∧ Q (.int (i * j)) h
  | .tup a, .int k => (-(2 ^ 63) ≤ k ∧ k ≤ 1000 ∧ a.length ≤ 1000) ∧ Q (.tup (List.replicate k.toNat a).flatten) h
  | x, .int k => match mutOf h x with
    | some a => a.length * k.toNat ≤ sizeLine ∧ -(2 ^ 63) ≤ k ∧ k < 2 ^ 63 ∧ Q (.tl (List.replicate k.toNat a).flatten) h
    | none => False
  | _, _ => False
def divOk (j : Int) : Prop := j ≠ 0 ∧ j.natAbs.log2 < 9000
def fdivW (x y : D) (h : Hd) (Q : PD) : Prop := match x, y with
  | .int i, .int j => divOk j ∧ Q (.int (i.fdiv j)) h
  | _, _ => False
def modW (x y : D) (h : Hd) (Q : PD) : Prop := match x, y with
  | .int i, .int j => j ≠ 0 ∧ Q (.int (i.fmod j)) h
  | _, _ => False
def powW (x y : D) (h : Hd) (Q : PD) : Prop := match x, y with
  | .int i, .int j => (0 ≤ j ∧ j ≤ 1000000 ∧ i.natAbs < 2 ^ 64) ∧ Q (.int (i ^ j.toNat)) h
  | _, _ => False
def negW (x : D) (h : Hd) (Q : PD) : Prop := match x with
  | .int i => Q (.int (-i)) h
  | _ => False
/-- x == y -/
def eqW (x y : D) (h : Hd) (Q : Bool → Hd → Prop) : Prop := match x, y with
  | .int i, .int j => Q (decide (i = j)) h
  | .str i, .str j => Q (decide (i = j)) h
  | .bl i, .bl j => Q (decide (i = j)) h
  | x, y => match snap h x, snap h y with
    | some a, some b => SeqAt.shaped a = true ∧ SeqAt.shaped b = true ∧ Q (PyData.eqv a b) h
    | _, _ => False
/-- an order -/
def ordW (f : Int → Int → Bool) (x y : D) (h : Hd) (Q : Bool → Hd → Prop) : Prop := match x, y with
  | .int i, .int j => Q (f i j) h
  | _, _ => False
def isNonD : D → Bool
  | .non => true | _ => false
def isBlD (b : Bool) : D → Bool
  | .bl c => c == b | _ => false
/-- x is y: none and truths -/
def isW (x y : D) (h : Hd) (Q : Bool → Hd → Prop) : Prop := match y with
  | .non => Q (isNonD x) h
  | .bl b => Q (isBlD b x) h
  | _ => False
def flatD : D → Bool
  | .non => true | .bl _ => true | .int _ => true | .str _ => true | _ => false
def flatB : D → Bool
  | .bl _ => true | _ => false
def flatI : D → Bool
  | .int _ => true | _ => false
/-- equality of flat values, no truth beside a number -/
def feq : D → D → Bool
  | .non, .non => true
  | .bl a, .bl b => a == b
  | .int a, .int b => a == b
  | .str a, .str b => a == b
  | _, _ => false
/-- x in y, y a tuple or list -/
def inW (x y : D) (h : Hd) (Q : Bool → Hd → Prop) : Prop := match seqOf h y with
  | some ys => (flatD x = true ∧ ys.all flatD = true ∧ ¬ (flatB x = true ∧ ys.any flatI = true) ∧ ¬ (flatI x = true ∧ ys.any flatB = true)) ∧ Q (ys.any fun z => feq z x) h
  | none => False
/-- x in y, y a tuple or list of data -/
def inDW (x y : D) (h : Hd) (Q : Bool → Hd → Prop) : Prop := match seqOf h y with
  | some ys => ((x.pure = true ∧ D.pures ys = true) ∧ SeqAt.shaped x.pd = true ∧ x.pd.depth ≤ 60 ∧ ∀ y ∈ D.pds ys, SeqAt.shaped y = true) ∧ Q ((D.pds ys).any fun z => PyData.eqv z x.pd) h
  | none => False
/-- x[y] -/
def idxW (x y : D) (h : Hd) (Q : PD) : Prop := match y with
  | .int i => match x with
    | .str z => z.length ≤ sizeLine ∧ (match atI z.cps.toList i with
      | some c => Q (.str ⟨#[c]⟩) h
      | none => False)
    | x => match seqOf h x with
      | some xs => (match atI xs i with
        | some v => Q v h
        | none => False)
      | none => False
  | _ => False
/-- a part's place -/
def partW (x : D) : Option Int := match x with
  | .int i => some i
  | _ => none
def cutD (xs : List D) (lo hi : Option Int) : List D := (xs.drop (HT.sIx xs.length 0 lo)).take (HT.sIx xs.length xs.length hi - HT.sIx xs.length 0 lo)
def slW (x : D) (lo hi : Option Int) (h : Hd) (Q : PD) : Prop := match x with
  | .tup xs => Q (.tup (cutD xs lo hi)) h
  | x => match lstOf h x with
    | some xs => Q (.tl (cutD xs lo hi)) h
    | none => False
def revW (x : D) (h : Hd) (Q : PD) : Prop := match x with
  | .tup xs => Q (.tup xs.reverse) h
  | x => match lstOf h x with
    | some xs => Q (.tl xs.reverse) h
    | none => False
/-! ### built-in functions by values -/
def lenW (x : D) (h : Hd) (Q : PD) : Prop := match x with
  | .str z => z.length ≤ sizeLine ∧ Q (.int z.length) h
  | x => match seqOf h x with
    | some xs => Q (.int xs.length) h
    | none => False
def absW (x : D) (h : Hd) (Q : PD) : Prop := match x with
  | .int i => Q (.int (if i < 0 then -i else i)) h
  | _ => False
def intW (x : D) (h : Hd) (Q : PD) : Prop := match x with
  | .int i => Q (.int i) h
  | .bl b => Q (.int (if b then 1 else 0)) h
  | _ => False
def gcdW (x y : D) (h : Hd) (Q : PD) : Prop := match x, y with
  | .int i, .int j => Q (.int ((Nat.gcd i.natAbs j.natAbs : Nat) : Int)) h
  | _, _ => False
def listW (x : D) (h : Hd) (Q : PD) : Prop := match seqOf h x with
  | some xs => Q (.tl xs) h
  | none => False
def tupleW (x : D) (h : Hd) (Q : PD) : Prop := match seqOf h x with
  | some xs => Q (.tup xs) h
  | none => False
def bitsW (x : D) (h : Hd) (Q : PD) : Prop := match x with
  | .int i => Q (.int (Builtin.Int.intBits i : Nat)) h
  | _ => False
/-- lists of numbers, of truths -/
def intsOf : List D → Option (List Int)
  | [] => some []
  | .int i :: r => match intsOf r with
    | some is => some (i :: is)
    | none => none
  | _ :: _ => none
def blsOf : List D → Option (List Bool)
  | [] => some []
  | .bl i :: r => match blsOf r with
    | some is => some (i :: is)
    | none => none
  | _ :: _ => none
def intsAt (h : Hd) (x : D) : Option (List Int) := match lstOf h x with
  | some xs => intsOf xs
  | none => none
def blsAt (h : Hd) (x : D) : Option (List Bool) := match lstOf h x with
  | some xs => blsOf xs
  | none => none
def intsSq (h : Hd) (x : D) : Option (List Int) := match seqOf h x with
  | some xs => intsOf xs
  | none => none
def sortI (ns : List Int) : List Int := ns.mergeSort fun a b => decide (a ≤ b)
def anyW (x : D) (h : Hd) (Q : PD) : Prop := match blsAt h x with
  | some bs => Q (.bl (bs.any id)) h
  | none => False
def allW (x : D) (h : Hd) (Q : PD) : Prop := match blsAt h x with
  | some bs => Q (.bl (bs.all id)) h
  | none => False
def sumW (x : D) (h : Hd) (Q : PD) : Prop := match intsAt h x with
  | some ns => Q (.int ns.sum) h
  | none => False
def maxLW (x : D) (h : Hd) (Q : PD) : Prop := match intsAt h x with
  | some ns => (match ns.max? with
    | some m => Q (.int m) h
    | none => False)
  | none => False
def minLW (x : D) (h : Hd) (Q : PD) : Prop := match intsAt h x with
  | some ns => (match ns.min? with
    | some m => Q (.int m) h
    | none => False)
  | none => False
def max2W (x y : D) (h : Hd) (Q : PD) : Prop := match x, y with
  | .int i, .int j => Q (.int (if j > i then j else i)) h
  | _, _ => False
def min2W (x y : D) (h : Hd) (Q : PD) : Prop := match x, y with
  | .int i, .int j => Q (.int (if j < i then j else i)) h
  | _, _ => False
def sortedW (x : D) (h : Hd) (Q : PD) : Prop := match intsSq h x with
  | some ns => Q (.tl ((sortI ns).map D.int)) h
  | none => False
def txtsOf : List D → Option (List Str)
  | [] => some []
  | .str i :: r => match txtsOf r with
    | some is => some (i :: is)
    | none => none
  | _ :: _ => none
def txtsAt (h : Hd) (x : D) : Option (List Str) := match lstOf h x with
  | some xs => txtsOf xs
  | none => none
def sortedSetW (x : D) (h : Hd) (Q : PD) : Prop := match intsSq h x with
  | some ns => ns.length < 64 ∧ ∀ us : List Int, us.Pairwise (· < ·) → (∀ k, k ∈ us ↔ k ∈ ns) → Q (.tl (us.map D.int)) h
  | none => match txtsAt h x with
    | some ss => ss.length < 4000 ∧ ∀ us : List Str, sortedS us = true → us.Nodup → (∀ k, k ∈ us ↔ k ∈ ss) → Q (.tl (us.map D.str)) h
    | none => False
def lenSetW (x : D) (h : Hd) (Q : PD) : Prop := match intsSq h x with
  | some ns => ns.length < 4000 ∧ ∀ us : List Int, us.Nodup → (∀ k, k ∈ us ↔ k ∈ ns) → Q (.int us.length) h
  | none => False
/-- dicts with numbers and texts as keys -/
def dkey : D → Option Key
  | .int i => some (.inl i)
  | .str x => some (.inr x)
  | _ => none
def dGet : List D → List D → Key → Option D
  | x :: ks, v :: vs, k => if dkey x = some k then some v else dGet ks vs k
  | _, _, _ => none
def dHas (ks : List D) (k : Key) : Bool := ks.any fun x => decide (dkey x = some k)
def dPut (ks vs : List D) (k : Key) (w : D) : List D × List D :=
  if dHas ks k = true then (ks, List.zipWith (fun x v => if dkey x = some k then w else v) ks vs) else (ks ++ [keyD k], vs ++ [w])
def dctOf (h : Hd) : D → Option (List D × List D)
  | .loc a => match h[a]? with
    | some (.dct false ks vs) => some (ks, vs)
    | _ => none
  | .td false ks vs => some (ks, vs)
  | _ => none
def dgetW (x y : D) (h : Hd) (Q : PD) : Prop := match dctOf h x, dkey y with
  | some (ks, vs), some k => (match dGet ks vs k with
    | some v => Q v h
    | none => False)
  | _, _ => False
def dinW (x y : D) (h : Hd) (Q : Bool → Hd → Prop) : Prop := match dctOf h y, dkey x with
  | some (ks, vs), some k => Q (dGet ks vs k).isSome h
  | _, _ => False
def dlenW (x : D) (h : Hd) (Q : PD) : Prop := match dctOf h x with
  | some (ks, _) => Q (.int ks.length) h
  | none => False
def lrngW (x : D) (h : Hd) (Q : PD) : Prop := match x with
  | .int n => (-(2 ^ 62) ≤ n ∧ n ≤ 2 ^ 24) ∧ Q (.tl ((List.range n.toNat).map fun (i : Nat) => D.int (0 + (i : Int)))) h
  | _ => False
/-- one sign in a text -/
def sinW (x y : D) (h : Hd) (Q : Bool → Hd → Prop) : Prop := match x, y with
  | .str a, .str z => (match a.cps.toList with
    | [c] => Q (decide (c ∈ z.cps.toList)) h
    | _ => False)
  | _, _ => False
def strRep (n : Nat) (a : Str) : Str := ⟨(List.replicate n a.cps.toList).flatten.toArray⟩
def smulW (x y : D) (h : Hd) (Q : PD) : Prop := match x, y with
  | .str a, .int k => (-(2 ^ 63) ≤ k ∧ k ≤ 1000 ∧ a.length ≤ 1000) ∧ Q (.str (strRep k.toNat a)) h
  | _, _ => False
def strSW (x : D) (h : Hd) (Q : PD) : Prop := match x with
  | .str a => Q (.str a) h
  | _ => False
/-- repr of a tuple without places -/
def reprW (x : D) (h : Hd) (Q : PD) : Prop := match x with
  | .tup xs => (D.pures xs = true ∧ (D.tup xs).pd.showable = true ∧ (D.tup xs).pd.depth ≤ 60 ∧ (D.tup xs).pd.shown.length ≤ sizeLine) ∧ Q (.str (D.tup xs).pd.shown) h
  | _ => False
/-- isinstance(x, T) -/
def isInst (T : String) (h : Hd) : D → Option Bool
  | .non => some (T == "NoneType")
  | .bl _ => some (T == "bool" || T == "int")
  | .int _ => some (T == "int")
  | .str _ => some (T == "str")
  | .tup _ => some (T == "tuple")
  | .tl _ => some (T == "list")
  | .td _ _ _ => some (T == "dict")
  | .rl _ => some (T == "list")
  | .loc a => match h[a]? with
    | some (.lst _) => some (T == "list")
    | some (.dct _ _ _) => some (T == "dict")
    | _ => none
def instW (T : String) (x : D) (h : Hd) (Q : PD) : Prop := match isInst T h x with
  | some b => Q (.bl b) h
  | none => False
/-! ### methods by values -/
def appendW (o x : D) (h : Hd) (Q : PD) : Prop := match o with
  | .loc a => match h[a]? with
    | some (.lst xs) => xs.length < sizeLine ∧ Q .non (h.set a (.lst (xs ++ [x])))
    | _ => False
  | _ => False
def popW (o : D) (h : Hd) (Q : PD) : Prop := match o with
  | .loc a => match h[a]? with
    | some (.lst xs) => (match xs[xs.length - 1]? with
      | some y => Q y (h.set a (.lst xs.dropLast))
      | none => False)
    | _ => False
  | _ => False
def popAtW (o i : D) (h : Hd) (Q : PD) : Prop := match o, i with
  | .loc a, .int j => match h[a]? with
    | some (.lst xs) => ((-(2 ^ 62) ≤ j ∧ j ≤ 2 ^ 62) ∧ match ixN xs.length j with
      | some n => (match xs[n]? with
        | some y => Q y (h.set a (.lst (xs.eraseIdx n)))
        | none => False)
      | none => False)
    | _ => False
  | _, _ => False
def reverseW (o : D) (h : Hd) (Q : PD) : Prop := match o with
  | .loc a => match h[a]? with
    | some (.lst xs) => Q .non (h.set a (.lst xs.reverse))
    | _ => False
  | _ => False
def setIdxW (o i v : D) (h : Hd) (k : Hd → Prop) : Prop := match o, i with
  | .loc a, .int j => match h[a]? with
    | some (.lst xs) => (match ixN xs.length j with
      | some n => k (h.set a (.lst (xs.set n v)))
      | none => False)
    | some (.dct false ks vs) => ks.length < sizeLine ∧ k (h.set a (.dct false (dPut ks vs (.inl j) v).1 (dPut ks vs (.inl j) v).2))
    | _ => False
  | .loc a, .str j => match h[a]? with
    | some (.dct false ks vs) => ks.length < sizeLine ∧ k (h.set a (.dct false (dPut ks vs (.inr j) v).1 (dPut ks vs (.inr j) v).2))
    | _ => False
  | _, _ => False
/-- a value gets a place of its own -/
def mat (d : D) (h : Hd) (Q : PD) : Prop := match d with
  | .tl xs => Q (.loc h.length) (h ++ [.lst xs])
  | .td tk ks vs => Q (.loc h.length) (h ++ [.dct tk ks vs])
  | d => Q d h
/-- a value's truth -/
def truth (h : Hd) : D → Option Bool
  | .non => some false
  | .bl b => some b
  | .int i => some (i != 0)
  | .tup xs => some (!xs.isEmpty)
  | .str _ => none
  | d => match lstOf h d with
    | some xs => some (!xs.isEmpty)
    | none => none

inductive Prim where
  | add | sub | mul | fdiv | mod | pow | neg
  | eq | ne | lt | le | gt | ge | is_ | isnot | in_ | notin
  | idx | slLo | slHi | rev
  | len | abs | int1 | gcd | list | tuple | bits | inst (T : String)
  | pop | reverse
  | any | all | sum | maxL | minL | sorted | max2 | min2 | sortedSet | lenSet
  | dnew | dget | din | dnotin | dlen | lrng
  | sin | snotin | smul | strS | repr
  | inD | notinD
  deriving DecidableEq

def bo (Q : PD) : Bool → Hd → Prop := fun b h => Q (.bl b) h
def bon (Q : PD) : Bool → Hd → Prop := fun b h => Q (.bl (!b)) h
def wpP : Prim → List D → Hd → PD → Prop
  | .add, [x, y], h, Q => addW x y h Q
  | .sub, [x, y], h, Q => subW x y h Q
  | .mul, [x, y], h, Q => mulW x y h Q
  | .fdiv, [x, y], h, Q => fdivW x y h Q
  | .mod, [x, y], h, Q => modW x y h Q
  | .pow, [x, y], h, Q => powW x y h Q
  | .neg, [x], h, Q => negW x h Q
  | .eq, [x, y], h, Q => eqW x y h (bo Q)
  | .ne, [x, y], h, Q => eqW x y h (bon Q)
  | .lt, [x, y], h, Q => ordW (fun i j => decide (i < j)) x y h (bo Q)
  | .le, [x, y], h, Q => ordW (fun i j => decide (i ≤ j)) x y h (bo Q)
  | .gt, [x, y], h, Q => ordW (fun i j => decide (j < i)) x y h (bo Q)
  | .ge, [x, y], h, Q => ordW (fun i j => decide (j ≤ i)) x y h (bo Q)
  | .is_, [x, y], h, Q => isW x y h (bo Q)
  | .isnot, [x, y], h, Q => isW x y h (bon Q)
  | .in_, [x, y], h, Q => inW x y h (bo Q)
  | .notin, [x, y], h, Q => inW x y h (bon Q)
  | .idx, [x, y], h, Q => idxW x y h Q
  | .slLo, [x, y], h, Q => match partW y with | some i => slW x (some i) none h Q | none => False
  | .slHi, [x, y], h, Q => match partW y with | some i => slW x none (some i) h Q | none => False
  | .rev, [x], h, Q => revW x h Q
  | .len, [x], h, Q => lenW x h Q
  | .abs, [x], h, Q => absW x h Q
  | .int1, [x], h, Q => intW x h Q
  | .gcd, [x, y], h, Q => gcdW x y h Q
  | .list, [x], h, Q => listW x h Q
  | .tuple, [x], h, Q => tupleW x h Q
  | .bits, [x], h, Q => bitsW x h Q
  | .inst T, [x], h, Q => instW T x h Q
  | .pop, [x], h, Q => popW x h Q
  | .reverse, [x], h, Q => reverseW x h Q
  | .any, [x], h, Q => anyW x h Q
  | .all, [x], h, Q => allW x h Q
  | .sum, [x], h, Q => sumW x h Q
  | .maxL, [x], h, Q => maxLW x h Q
  | .minL, [x], h, Q => minLW x h Q
  | .sorted, [x], h, Q => sortedW x h Q
  | .max2, [x, y], h, Q => max2W x y h Q
  | .min2, [x, y], h, Q => min2W x y h Q
  | .sortedSet, [x], h, Q => sortedSetW x h Q
  | .lenSet, [x], h, Q => lenSetW x h Q
  | .dnew, [], h, Q => Q (.td false [] []) h
  | .dget, [x, y], h, Q => dgetW x y h Q
  | .din, [x, y], h, Q => dinW x y h (bo Q)
  | .dnotin, [x, y], h, Q => dinW x y h (bon Q)
  | .dlen, [x], h, Q => dlenW x h Q
  | .lrng, [x], h, Q => lrngW x h Q
  | .sin, [x, y], h, Q => sinW x y h (bo Q)
  | .snotin, [x, y], h, Q => sinW x y h (bon Q)
  | .smul, [x, y], h, Q => smulW x y h Q
  | .strS, [x], h, Q => strSW x h Q
  | .repr, [x], h, Q => reprW x h Q
  | .inD, [x, y], h, Q => inDW x y h (bo Q)
  | .notinD, [x, y], h, Q => inDW x y h (bon Q)
  | _, _, _, _ => False

/-- methods with arguments -/
inductive MP where
  | append | popAt
  deriving DecidableEq
def tyM : MP → Hd → D → Prop
  | .append, h, x => (mutOf h x).isSome = true
  | .popAt, h, x => (mutOf h x).isSome = true
def wpM : MP → D → List D → Hd → PD → Prop
  | .append, x, [y], h, Q => appendW x y h Q
  | .popAt, x, [y], h, Q => popAtW x y h Q
  | _, _, _, _, _ => False
/-! ### the resolved syntax -/
inductive Pat where
  | nm (i : Nat) | tp (is : List Nat)
inductive CE where
  | var (i : Nat) | cst (d : D) | glob (i : Nat)
  | anil | acons (e r : CE)
  | tup (as : CE) | lst (as : CE) | prim (p : Prim) (as : CE) | meth (m : MP) (o as : CE) | call (f : Nat) (as : CE)
  | ife (t a b : CE) | and_ (a b : CE) | or_ (a b : CE) | not_ (a : CE)
  | chain (p q : Prim) (a b c : CE) | sl2 (a b c : CE)
  | r1 (a : CE) | r2 (a b : CE)
  | comp (p : Pat) (it : CE) (cond : Option Unit) (c : CE) (elt : CE)
  | disp (ks : List Key) (as : CE)
  | comp2 (p : Pat) (it : CE) (p2 : Pat) (it2 : CE) (elt : CE)
  | dvals (i k : Nat)
/-- what is walked -/
inductive Iter where
  | vals (xs : List D) | live (a : Nat) (xs : List D)
def Iter.xs : Iter → List D
  | .vals xs => xs
  | .live _ xs => xs
def Iter.ok : Iter → Hd → Prop
  | .vals _, _ => True
  | .live a xs, h => h[a]? = some (.lst xs)
def setAll : Sd → List Nat → List D → Sd
  | τ, i :: is, d :: ds => setAll (τ.set i (some d)) is ds
  | τ, _, _ => τ
def bindW (p : Pat) (d : D) (τ : Sd) (k : Sd → Prop) : Prop := match p with
  | .nm i => k (τ.set i (some d))
  | .tp is => match d with
    | .tup ds => ds.length = is.length ∧ k (setAll τ is ds)
    | _ => False
def Pat.ix : Pat → List Nat
  | .nm i => [i]
  | .tp is => is
def wipeD (τ : Sd) : List Nat → Sd
  | [] => τ
  | v :: vs => (wipeD τ vs).set v none
/-- the turns of a comprehension -/
def compW (ok : Hd → Prop) (p : Pat) (cond : TTd) (elt : TEd) (τ : Sd) (Q : List D → Hd → Prop) : List D → List D → Hd → Prop
  | [], acc, h => ok h ∧ Q acc h
  | x :: xs, acc, h => ok h ∧ bindW p x τ fun τ' => cond τ' h fun b h1 =>
      if b = true then elt τ' h1 fun y h2 => mat y h2 fun z h3 => acc.length < sizeLine ∧ compW ok p cond elt τ Q xs (acc ++ [z]) h3
      else compW ok p cond elt τ Q xs acc h1
/-- what is wanted of an exception: its class by number, the heap -/
abbrev XD := Nat → Hd → Prop
abbrev CallX := Nat → List D → Hd → PD → XD → Prop
def noX : XD := fun _ _ => False
/-- what calls do; what is wanted of their exceptions -/
structure CallD where
  c : CallX
  x : XD
def CallD.quiet (cl : CallD) : CallD := ⟨cl.c, noX⟩
abbrev TId := Sd → Hd → (Iter → Hd → Prop) → Prop
def rangeD (lo : Int) (n : Nat) : List D := (List.range n).map fun (i : Nat) => D.int (lo + (i : Int))
def chrs (x : Str) : List D := x.cps.toList.map fun c => D.str ⟨#[c]⟩
/-- the four readings of a piece of syntax: as a value, as a test, as arguments (true: each gets a place), as what is walked -/
structure RD where
  e : TEd
  t : TTd
  a : Bool → TAd
  i : TId
def tstOf (e : TEd) : TTd := fun τ h Q => e τ h fun d h' => match truth h' d with | some k => Q k h' | none => False
def itOf (e : TEd) : TId := fun τ h K => e τ h fun d h' => match d with
    | .tup xs => K (.vals xs) h'
    | .tl xs => K (.vals xs) h'
    | .rl xs => K (.vals xs) h'
    | .str x => x.length ≤ sizeLine ∧ K (.vals (chrs x)) h'
    | .loc a => match h'[a]? with
      | some (.lst xs) => K (.live a xs) h'
      | _ => False
    | _ => False
def mkR (e : TEd) : RD := ⟨e, tstOf e, fun _ _ _ _ => False, itOf e⟩
def varE (i : Nat) : TEd := fun τ h Q => match τ[i]? with | some (some d) => Q d h | _ => False
def cstE (d : D) : TEd := fun _ h Q => Q d h
def tupE (as : Bool → TAd) : TEd := fun τ h Q => as true τ h fun ds h' => ds.length ≤ sizeLine ∧ Q (.tup ds) h'
def lstE (as : Bool → TAd) : TEd := fun τ h Q => as true τ h fun ds h' => ds.length ≤ sizeLine ∧ Q (.tl ds) h'
def dispE (ks : List Key) (as : Bool → TAd) : TEd := fun τ h Q => as true τ h fun ds h' => ds.length = ks.length ∧ Q (.td false (ks.map keyD) ds) h'
def primE (p : Prim) (as : Bool → TAd) : TEd := fun τ h Q => as false τ h fun ds h' => wpP p ds h' Q
def methE (m : MP) (o : TEd) (as : Bool → TAd) : TEd := fun τ h Q => o τ h fun x h1 => tyM m h1 x ∧ as true τ h1 fun ds h2 => wpM m x ds h2 Q
def callE (cl : CallD) (f : Nat) (as : Bool → TAd) : TEd := fun τ h Q => as true τ h fun ds h' => cl.c f ds h' Q cl.x
def iteE (t : TTd) (a b : TEd) : TEd := fun τ h Q => t τ h fun k h' => if k = true then a τ h' Q else b τ h' Q
def andE (a b : TEd) : TEd := fun τ h Q => a τ h fun d h' => ∃ k, d = .bl k ∧ if k = true then b τ h' Q else Q (.bl false) h'
def orE (a b : TEd) : TEd := fun τ h Q => a τ h fun d h' => ∃ k, d = .bl k ∧ if k = true then Q (.bl true) h' else b τ h' Q
def notE (a : TEd) : TEd := fun τ h Q => a τ h fun d h' => ∃ k, d = .bl k ∧ Q (.bl (!k)) h'
def andT (a b : TTd) : TTd := fun τ h Q => a τ h fun k h' => if k = true then b τ h' Q else Q false h'
def orT (a b : TTd) : TTd := fun τ h Q => a τ h fun k h' => if k = true then Q true h' else b τ h' Q
def notT (a : TTd) : TTd := fun τ h Q => a τ h fun k h' => Q (!k) h'
def chainE (p q : Prim) (a b c : TEd) : TEd := fun τ h Q => a τ h fun x h1 => b τ h1 fun y h2 => wpP p [x, y] h2 fun r h3 => ∃ k, r = .bl k ∧
      if k = true then c τ h3 fun z h4 => wpP q [y, z] h4 Q else Q (.bl false) h3
def sl2E (a b c : TEd) : TEd := fun τ h Q => a τ h fun x h1 => b τ h1 fun y h2 => match y with
  | .int i => c τ h2 fun z h3 => match z with
    | .int j => slW x (some i) (some j) h3 Q
    | _ => False
  | _ => False
def compE (it : TId) (p : Pat) (cond : TTd) (elt : TEd) : TEd := fun τ h Q => it τ h fun w h1 => compW w.ok p cond elt (wipeD τ p.ix) (fun acc h2 => Q (.tl acc) h2) w.xs [] h1
def yesT : TTd := fun _ h Q => Q true h
/-- the turns of a comprehension of two clauses; its list at place a -/
def in2W (ok : Hd → Prop) (a : Nat) (p2 : Pat) (elt : TEd) (τ : Sd) (Q : Hd → Prop) : List D → Hd → Prop
  | [], h => ok h ∧ Q h
  | y :: ys, h => ok h ∧ bindW p2 y τ fun τ' => elt τ' h fun z h1 => mat z h1 fun z' h2 => appendW (.loc a) z' h2 fun _ h3 => in2W ok a p2 elt τ Q ys h3
def comp2W (ok : Hd → Prop) (a : Nat) (p : Pat) (it2 : TId) (p2 : Pat) (elt : TEd) (τ : Sd) (Q : PD) : List D → Hd → Prop
  | [], h => ok h ∧ Q (.loc a) h
  | x :: xs, h => ok h ∧ bindW p x τ fun τ' => it2 τ' h fun w1 h1 => in2W w1.ok a p2 elt (wipeD τ' p2.ix) (fun h2 => comp2W ok a p it2 p2 elt τ Q xs h2) w1.xs h1
def comp2E (it : TId) (p : Pat) (it2 : TId) (p2 : Pat) (elt : TEd) : TEd := fun τ h Q => it τ h fun w h1 => comp2W w.ok h1.length p it2 p2 elt (wipeD τ (p.ix ++ p2.ix)) Q w.xs (h1 ++ [.lst []])
/-- [d[k] for k in d] -/
def dVals (ks vs : List D) : List D := ks.map fun x => ((dkey x).bind (dGet ks vs)).getD .non
def dvalsE (i k : Nat) : TEd := fun τ h Q => match τ[i]? with
  | some (some (.loc a)) => (match h[a]? with
    | some (.dct false ks vs) => (ks.length ≤ sizeLine ∧ k < τ.length) ∧ Q (.tl (dVals ks vs)) h
    | _ => False)
  | _ => False
def nilA : Bool → TAd := fun _ _ h Q => Q [] h
def consA (e : TEd) (r : Bool → TAd) : Bool → TAd
  | true => fun τ h Q => e τ h fun d h1 => mat d h1 fun d' h2 => r true τ h2 fun ds h3 => Q (d' :: ds) h3
  | false => fun τ h Q => e τ h fun d h1 => r false τ h1 fun ds h3 => Q (d :: ds) h3
def r1I (a : TEd) : TId := fun τ h K => a τ h fun d h' => match d with | .int n => (-(2 ^ 62) ≤ n ∧ n < 2 ^ 62) ∧ K (.vals (rangeD 0 n.toNat)) h' | _ => False
def r2I (a b : TEd) : TId := fun τ h K => a τ h fun x h1 => b τ h1 fun y h2 => match x, y with
    | .int i, .int j => (-(2 ^ 62) ≤ i ∧ i < 2 ^ 62 ∧ -(2 ^ 62) ≤ j ∧ j < 2 ^ 62) ∧ K (.vals (rangeD i (j - i).toNat)) h2
    | _, _ => False
def noE : TEd := fun _ _ _ => False
def globE (gl : List (Str × D)) (i : Nat) : TEd := fun _ h Q => match gl[i]? with | some (_, d) => Q d h | none => False
def wp : CallD → List (Str × D) → CE → RD
  | cl, gl, .var i => mkR (varE i)
  | cl, gl, .cst d => mkR (cstE d)
  | cl, gl, .glob i => mkR (globE gl i)
  | cl, gl, .tup as => mkR (tupE (wp cl gl as).a)
  | cl, gl, .lst as => mkR (lstE (wp cl gl as).a)
  | cl, gl, .disp ks as => mkR (dispE ks (wp cl gl as).a)
  | cl, gl, .prim p as => mkR (primE p (wp cl gl as).a)
  | cl, gl, .meth m o as => mkR (methE m (wp cl gl o).e (wp cl gl as).a)
  | cl, gl, .call f as => mkR (callE cl f (wp cl gl as).a)
  | cl, gl, .ife t a b => mkR (iteE (wp cl gl t).t (wp cl gl a).e (wp cl gl b).e)
  | cl, gl, .and_ a b => { mkR (andE (wp cl gl a).e (wp cl gl b).e) with t := andT (wp cl gl a).t (wp cl gl b).t }
  | cl, gl, .or_ a b => { mkR (orE (wp cl gl a).e (wp cl gl b).e) with t := orT (wp cl gl a).t (wp cl gl b).t }
  | cl, gl, .not_ a => { mkR (notE (wp cl gl a).e) with t := notT (wp cl gl a).t }
  | cl, gl, .chain p q a b c => mkR (chainE p q (wp cl gl a).e (wp cl gl b).e (wp cl gl c).e)
  | cl, gl, .sl2 a b c => mkR (sl2E (wp cl gl a).e (wp cl gl b).e (wp cl gl c).e)
  | cl, gl, .comp p it none _ elt => mkR (compE (wp cl gl it).i p yesT (wp cl.quiet gl elt).e)
  | cl, gl, .comp p it (some _) c elt => mkR (compE (wp cl gl it).i p (wp cl.quiet gl c).t (wp cl.quiet gl elt).e)
  | cl, gl, .comp2 p it p2 it2 elt => mkR (comp2E (wp cl gl it).i p (wp cl.quiet gl it2).i p2 (wp cl.quiet gl elt).e)
  | cl, gl, .dvals i k => mkR (dvalsE i k)
  | cl, gl, .anil => { mkR noE with a := nilA }
  | cl, gl, .acons e r => { mkR noE with a := consA (wp cl gl e).e (wp cl gl r).a }
  | cl, gl, .r1 a => { mkR noE with i := r1I (wp cl gl a).e }
  | cl, gl, .r2 a b => { mkR noE with i := r2I (wp cl gl a).e (wp cl gl b).e }
end Py

namespace Py
open PySem PySem.Spec PyProof.Rows L2

section
variable {K : PySem.W.Frag} {R : Nat → Addr} {h : Hd} {H G : Hp} {P : PD} {Q : VK} {d : D} {v : V}

theorem Post.here (p : Post K R h H P Q) (hr : HRel K H R h) (r : RT K H R h.length H d v) (q : P d h) : Q v H := p R h H d v .refl hr r q
theorem Post.int {i : Int} (p : Post K R h H P Q) (hr : HRel K H R h) (q : P (.int i) h) : Q (.int i) H := p.here hr (by rfl) q
theorem Post.bl {i : Bool} (p : Post K R h H P Q) (hr : HRel K H R h) (q : P (.bl i) h) : Q (.bl i) H := p.here hr (by rfl) q
theorem Post.str {i : Str} (p : Post K R h H P Q) (hr : HRel K H R h) (q : P (.str i) h) : Q (.str i) H := p.here hr (by rfl) q
theorem Post.non (p : Post K R h H P Q) (hr : HRel K H R h) (q : P .non h) : Q .non H := p.here hr (by rfl) q

theorem rd_upd {a p : Addr} {o u : HO} (hp : H p = none) (r : Rd H a u) : Rd (upd H p o) a u := by
  rcases r with r | ⟨ob, r⟩
  · exact .inl (by rw [upd_ne (ne_of_none r hp)]; exact r)
  · exact .inr ⟨ob, by rw [upd_ne (ne_of_none r hp)]; exact r⟩
theorem sqT_upd {a p : Addr} {o : HO} {vs : List V} (hp : H p = none) (r : SqT K H a vs) : SqT K (upd H p o) a vs := r.imp (rd_upd hp) id
theorem sqL_upd {a p : Addr} {o : HO} {vs : List V} (hp : H p = none) (r : SqL K H a vs) : SqL K (upd H p o) a vs := r.imp (rd_upd hp) id
theorem fzL_upd {a p : Addr} {o : HO} {vs : List V} (hp : H p = none) (r : FzL K H a vs) : FzL K (upd H p o) a vs :=
  r.imp (fun ⟨ob, r⟩ => ⟨ob, by rw [upd_ne (ne_of_none r hp)]; exact r⟩) id
theorem Ext.laid {p : Addr} {o : HO} (hp : H p = none) : Ext K R h H R h (upd H p o) where
  len := Nat.le_refl _
  agr := fun _ _ => rfl
  fresh := fun i h1 h2 => absurd h2 (Nat.not_lt.mpr h1)
  frame := fun a o e _ => by rw [upd_ne (ne_of_none e hp)]; exact e
  stay := fun a o e => ⟨o, by rw [upd_ne (ne_of_none e hp)]; exact e⟩
  tup := fun a vs r => sqT_upd hp r
  frz := fun a vs r => fzL_upd hp r
theorem HRel.laid {p : Addr} {o : HO} (hr : HRel K H R h) (hp : H p = none) : HRel K (upd H p o) R h := by
  refine ⟨hr.inj, fun i ob e => ?_⟩
  have x := hr.obj i ob e
  have E : Ext K R h H R h (upd H p o) := .laid hp
  cases ob with
  | lst ds =>
    obtain ⟨vs, a, b⟩ := x
    exact ⟨vs, by rw [upd_ne (ne_of_none a hp)]; exact a, E.r0s b⟩
  | dct tk ks vs =>
    have x' : dcRel K H R h.length tk ks vs (H (R i)) := x
    show dcRel K (upd H p o) R h.length tk ks vs (upd H p o (R i))
    have hne : R i ≠ p := by
      rcases x' with ⟨_, kvs, a, _⟩ | ⟨_, kvs, a, _⟩ <;> exact ne_of_none a hp
    rw [upd_ne hne]
    exact x'.ext E
  | ins c fs => exact x
/-- a new thing at p is none of the places -/
theorem HRel.nep {p : Addr} (hr : HRel K H R h) (hp : H p = none) : ∀ i, i < h.length → R i ≠ p := fun i hi => by
  have e : h[i]? = some h[i] := List.getElem?_eq_getElem hi
  have x := hr.obj i _ e
  generalize hob : h[i] = ob at x e
  cases ob with
  | lst ds => obtain ⟨vs, a, _⟩ := x; exact ne_of_none a hp
  | dct tk ks vs =>
    rcases x with ⟨_, kvs, a, _⟩ | ⟨_, kvs, a, _⟩ <;> exact ne_of_none a hp
  | ins c fs => exact x.elim

theorem rd_wr {a p : Addr} {o u w : HO} (hp : H p = some w) (nu : w ≠ u) (nf : ∀ ob, w ≠ .frz ob u) (r : Rd H a u) : Rd (upd H p o) a u := by
  rcases r with r | ⟨ob, r⟩
  · exact .inl (by rw [upd_ne (ne_of r hp (Ne.symm nu))]; exact r)
  · exact .inr ⟨ob, by rw [upd_ne (ne_of r hp (Ne.symm (nf ob)))]; exact r⟩
/-- what may be written (no tuple, nothing frozen) -/
def Wr : HO → Prop
  | .lst _ => True
  | .dK _ => True
  | .dT _ => True
  | .set _ _ => True
  | .ins _ _ _ => True
  | _ => False
theorem Ext.put {i : Nat} {o : HO} {u : DO} {w : HO} (hr : HRel K H R h) (hi : i < h.length) (hw : H (R i) = some w) (wr : Wr w) : Ext K R h H R (h.set i u) (upd H (R i) o) where
  len := by simp
  agr := fun _ _ => rfl
  fresh := fun j h1 h2 => absurd h2 (by simpa using h1)
  frame := fun a ob e n => by rw [upd_ne (Ne.symm (n i hi))]; exact e
  stay := fun a ob e => by
    by_cases q : a = R i
    · exact ⟨o, by rw [q, upd_same]⟩
    · exact ⟨ob, by rw [upd_ne q]; exact e⟩
  tup := fun a vs r => r.imp (rd_wr hw (by intro z; subst z; exact wr) fun ob z => by subst z; exact wr) id
  frz := fun a vs r => r.imp (fun ⟨ob, r⟩ => ⟨ob, by rw [upd_ne (ne_of r hw (by intro z; subst z; exact wr))]; exact r⟩) id
/-- .. what stands there now as u -/
theorem HRel.put {i : Nat} {o : HO} {u : DO} {w : HO} (hr : HRel K H R h) (hi : i < h.length) (hw : H (R i) = some w) (wr : Wr w) (new : ORel K (upd H (R i) o) R (h.set i u).length (R i) u) :
    HRel K (upd H (R i) o) R (h.set i u) := by
  have E : Ext K R h H R (h.set i u) (upd H (R i) o) := .put hr hi hw wr
  refine ⟨fun a b ha hb e => hr.inj a b (by simpa using ha) (by simpa using hb) e, fun j ob e => ?_⟩
  by_cases hj : j = i
  · subst hj
    rw [List.getElem?_set_self hi] at e
    cases e
    exact new
  · rw [List.getElem?_set_ne (Ne.symm hj)] at e
    have hjl : j < h.length := (List.getElem?_eq_some_iff.mp e).1
    have ne : R j ≠ R i := fun z => hj (hr.inj j i hjl hi z)
    have x := hr.obj j ob e
    cases ob with
    | lst ds =>
      obtain ⟨vs, a, b⟩ := x
      exact ⟨vs, by rw [upd_ne ne]; exact a, E.r0s b⟩
    | dct tk ks vs =>
      show dcRel K (upd H (R i) o) R (h.set i u).length tk ks vs (upd H (R i) o (R j))
      rw [upd_ne ne]
      exact dcRel.ext E x
    | ins c fs => exact x
theorem HRel.lst {i : Nat} {ds : List D} (hr : HRel K H R h) (e : h[i]? = some (.lst ds)) : i < h.length ∧ ∃ vs, H (R i) = some (.lst vs) ∧ R0s K H R h.length ds vs :=
  ⟨(List.getElem?_eq_some_iff.mp e).1, hr.obj i _ e⟩

/-- a new list comes back -/
theorem Post.tl {p : Addr} {ds : List D} {vs : List V} (q : Post K R h H P Q) (hr : HRel K H R h) (hp : H p = none) (r : R0s K H R h.length ds vs) (w : P (.tl ds) h) : Q (.ref p) (upd H p (.lst vs)) := by
  have E : Ext K R h H R h (upd H p (.lst vs)) := .laid hp
  exact q R h _ (.tl ds) _ E (hr.laid hp) ⟨p, vs, rfl, hp, upd_same, E.r0s r, hr.nep hp⟩ w
/-- a new tuple comes back -/
theorem Post.tup {p : Addr} {ds : List D} {vs : List V} (q : Post K R h H P Q) (hr : HRel K H R h) (hp : H p = none) (r : R0s K H R h.length ds vs) (w : P (.tup ds) h) : Q (.ref p) (upd H p (.tup vs)) := by
  have E : Ext K R h H R h (upd H p (.tup vs)) := .laid hp
  refine q R h _ (.tup ds) _ E (hr.laid hp) ?_ w
  show R0 _ _ _ _ (.tup ds) _
  simp only [R0]
  exact ⟨p, vs, rfl, .inl (.inl upd_same), E.r0s r⟩
/-- what a list value is -/
theorem RT.lst (hr : HRel K H R h) (r : RT K H R h.length G d v) {xs : List D} (e : lstOf h d = some xs) : ∃ a vs, v = .ref a ∧ SqL K H a vs ∧ R0s K H R h.length xs vs := by
  cases d with
  | tl ds =>
    obtain ⟨a, vs, e1, _, q, r, _⟩ := r
    cases e
    exact ⟨a, vs, e1, .of q, r⟩
  | rl ds =>
    have r' : R0 K H R h.length (.rl ds) v := r
    simp only [R0] at r'
    obtain ⟨a, vs, e1, q, r⟩ := r'
    cases e
    exact ⟨a, vs, e1, q.sq, r⟩
  | loc i =>
    have r' : R0 K H R h.length (.loc i) v := r
    simp only [R0] at r'
    simp only [lstOf] at e
    split at e
    · rename_i ys e2
      cases e
      obtain ⟨_, vs, q, z⟩ := hr.lst e2
      exact ⟨R i, vs, r'.2, .of q, z⟩
    · cases e
  | _ => cases e
/-- a list that is not read-only -/
theorem RT.lstM (hr : HRel K H R h) (r : RT K H R h.length G d v) {xs : List D} (e : lstOf h d = some xs) (n : ∀ ys, d ≠ .rl ys) : ∃ a vs, v = .ref a ∧ H a = some (.lst vs) ∧ R0s K H R h.length xs vs := by
  cases d with
  | tl ds =>
    obtain ⟨a, vs, e1, _, q, r, _⟩ := r
    cases e
    exact ⟨a, vs, e1, q, r⟩
  | rl ds => exact absurd rfl (n ds)
  | loc i =>
    have r' : R0 K H R h.length (.loc i) v := r
    simp only [R0] at r'
    simp only [lstOf] at e
    split at e
    · rename_i ys e2
      cases e
      obtain ⟨_, vs, q, z⟩ := hr.lst e2
      exact ⟨R i, vs, r'.2, q, z⟩
    · cases e
  | _ => cases e
theorem RT.tup {xs : List D} (r : RT K H R h.length G (.tup xs) v) : ∃ a vs, v = .ref a ∧ SqT K H a vs ∧ R0s K H R h.length xs vs := by
  have r' : R0 K H R h.length (.tup xs) v := r
  simp only [R0] at r'
  exact r'
theorem RT.seq (hr : HRel K H R h) (r : RT K H R h.length G d v) {xs : List D} (e : seqOf h d = some xs) : ∃ a vs, v = .ref a ∧ (SqL K H a vs ∨ SqT K H a vs) ∧ R0s K H R h.length xs vs := by
  cases d with
  | tup ds =>
    cases e
    obtain ⟨a, vs, e1, q, r⟩ := r.tup
    exact ⟨a, vs, e1, .inr q, r⟩
  | _ =>
    obtain ⟨a, vs, e1, q, r⟩ := r.lst hr e
    exact ⟨a, vs, e1, .inl q, r⟩

def Sim1 (K : PySem.W.Frag) (r : V → Hp → VK → Prop) (p : D → Hd → PD → Prop) : Prop :=
  ∀ R h H G x v P Q, HRel K H R h → RT K H R h.length G x v → p x h P → Post K R h H P Q → r v H Q
def Sim2 (K : PySem.W.Frag) (r : R2) (p : D → D → Hd → PD → Prop) : Prop :=
  ∀ R h H G G' x y v u P Q, HRel K H R h → RT K H R h.length G x v → RT K H R h.length G' y u → p x y h P → Post K R h H P Q → r v u H Q
end
end Py

namespace Py
open PySem PySem.Spec PyProof.Rows L2
variable {L : Lnk}

section
variable {K : PySem.W.Frag} {R : Nat → Addr} {h : Hd} {H G : Hp} {P : PD} {Q : VK} {d : D} {v : V}
theorem RT.intE {i : Int} (r : RT K H R h.length G (.int i) v) : v = .int i := r
theorem RT.blE {i : Bool} (r : RT K H R h.length G (.bl i) v) : v = .bl i := r
theorem RT.strE {i : Str} (r : RT K H R h.length G (.str i) v) : v = .str i := r
theorem RT.nonE (r : RT K H R h.length G .non v) : v = .non := r
theorem mutOf_of {d : D} {xs : List D} (e : mutOf h d = some xs) : lstOf h d = some xs ∧ ∀ ys, d ≠ .rl ys := by
  cases d with
  | rl ys => cases e
  | _ => exact ⟨e, fun ys z => by cases z⟩
theorem RT.mlst (hr : HRel K H R h) (r : RT K H R h.length G d v) {xs : List D} (e : mutOf h d = some xs) : ∃ a vs, v = .ref a ∧ H a = some (.lst vs) ∧ R0s K H R h.length xs vs :=
  let ⟨a, b⟩ := mutOf_of e
  r.lstM hr a b
theorem R0s_nil_iff {xs : List D} {vs : List V} (r : R0s K H R h.length xs vs) : vs = [] ↔ xs = [] := by
  have := R0s_len r
  constructor
  · intro e; subst e; exact List.eq_nil_of_length_eq_zero this
  · intro e; subst e; exact List.eq_nil_of_length_eq_zero this.symm
end

def rAddD (K : PySem.W.Frag) : R2 := fun x y H Q => rI0 (fun i j => .int (i + j)) x y H Q ∨ (∃ i j, x = .str i ∧ y = .str j ∧ i.length + j.length ≤ sizeLine ∧ Q (.str (i ++ j)) H) ∨ rCatA K x y H Q ∨ rCat x y H Q
theorem ok_add {X : Cx} : OpR X (binaryOp .Add) (rAddD X.K) := op_add.or (op_add_str.or (op_catA.or op_cat))
theorem sim_add {K : PySem.W.Frag} : Sim2 K (rAddD K) addW := by
  intro R h H G G' x y v u P Q hr rx ry w p
  unfold addW at w
  split at w
  · cases rx.intE; cases ry.intE
    exact .inl ⟨_, _, rfl, rfl, p.int hr w⟩
  · cases rx.strE; cases ry.strE
    exact .inr (.inl ⟨_, _, rfl, rfl, w.1, p.str hr w.2⟩)
  · rename_i as bs
    obtain ⟨a, vs, rfl, ha, ra⟩ := rx.tup
    obtain ⟨b, us, rfl, hb, rb⟩ := ry.tup
    refine .inr (.inr (.inl ⟨a, b, vs, us, rfl, rfl, ha, hb, by rw [← R0s_len ra, ← R0s_len rb]; exact w.1, fun e => ?_, fun e1 e2 => ?_, fun e1 e2 q hq => ?_⟩))
    · have e' := (R0s_nil_iff ra).mp e
      subst e'
      exact p.here (d := .tup bs) hr (by show R0 _ _ _ _ (.tup bs) _; simp only [R0]; exact ⟨b, us, rfl, hb, rb⟩) (by simpa using w.2)
    · have e' := (R0s_nil_iff rb).mp e2
      subst e'
      exact p.here (d := .tup as) hr (by show R0 _ _ _ _ (.tup as) _; simp only [R0]; exact ⟨a, vs, rfl, ha, ra⟩) (by simpa using w.2)
    · exact p.tup hr hq (R0s_append ra rb) w.2
  · split at w
    · rename_i as bs ea eb
      obtain ⟨a, vs, rfl, ha, ra⟩ := rx.mlst hr ea
      obtain ⟨b, us, rfl, hb, rb⟩ := ry.mlst hr eb
      exact .inr (.inr (.inr ⟨a, b, vs, us, rfl, rfl, ha, hb, by rw [← R0s_len ra, ← R0s_len rb]; exact w.1, fun q hq => p.tl hr hq (R0s_append ra rb) w.2⟩))
    · exact w.elim
theorem sim_sub {K : PySem.W.Frag} : Sim2 K (rI0 fun i j => .int (i - j)) subW := by
  intro R h H G G' x y v u P Q hr rx ry w p
  unfold subW at w
  split at w
  · cases rx.intE; cases ry.intE
    exact ⟨_, _, rfl, rfl, p.int hr w⟩
  · exact w.elim
def rSameT (K : PySem.W.Frag) : R2 := fun x y H Q => ∃ l k xs, x = .ref l ∧ y = .int k ∧ SqT K H l xs ∧ (xs = [] ∨ k = 1) ∧ -(2 ^ 63) ≤ k ∧ k < 2 ^ 63 ∧ Q (.ref l) H
def rNoneT (K : PySem.W.Frag) : R2 := fun x y H Q => ∃ l k xs, x = .ref l ∧ y = .int k ∧ SqT K H l xs ∧ xs ≠ [] ∧ k ≤ 0 ∧ -(2 ^ 63) ≤ k ∧ ∀ p, H p = none → Q (.ref p) (upd H p (.tup []))
def rMulD (K : PySem.W.Frag) : R2 := fun x y H Q => rI CMul (fun i j => .int (i * j)) x y H Q ∨ rI CMulW (fun i j => .int (i * j)) x y H Q ∨ (rSameT K x y H Q ∨ rNoneT K x y H Q ∨ rRepT K x y H Q) ∨ rRep x y H Q
theorem ok_mul {X : Cx} : OpR X (binaryOp .Mult) (rMulD X.K) := op_mul.or (op_mulW.or ((OpR.or (r := rSameT X.K) op_same (OpR.or (r := rNoneT X.K) op_none op_repT)).or op_rep))
theorem sim_mul {K : PySem.W.Frag} : Sim2 K (rMulD K) mulW := by
  intro R h H G G' x y v u P Q hr rx ry w p
  unfold mulW at w
  split at w
  · cases rx.intE; cases ry.intE
    obtain ⟨c | c, w⟩ := w
    · exact .inl ⟨_, _, rfl, rfl, c, p.int hr w⟩
    · exact .inr (.inl ⟨_, _, rfl, rfl, c, p.int hr w⟩)
  · obtain ⟨a, vs, rfl, ha, ra⟩ := rx.tup
    cases ry.intE
    rename_i ds k
    obtain ⟨⟨c2, c3, c4⟩, w⟩ := w
    refine .inr (.inr (.inl ?_))
    by_cases hs : vs = [] ∨ k = 1
    · refine .inl ⟨a, _, vs, rfl, rfl, ha, hs, c2, by omega, p.here (d := .tup ds) hr ?_ ?_⟩
      · show R0 K H R h.length (.tup ds) _
        simp only [R0]
        exact ⟨a, vs, rfl, ha, ra⟩
      · have e : (List.replicate k.toNat ds).flatten = ds := by
          rcases hs with z | rfl
          · rw [(R0s_nil_iff ra).mp z]
            simp
          · simp
        rw [e] at w
        exact w
    · have hv : vs ≠ [] := fun z => hs (.inl z)
      by_cases hk : k ≤ 0
      · refine .inr (.inl ⟨a, _, vs, rfl, rfl, ha, hv, hk, c2, fun q hq => p.tup hr hq (ds := []) (by simp only [R0s]) ?_⟩)
        have e : k.toNat = 0 := by omega
        rw [e] at w
        exact w
      · exact .inr (.inr ⟨a, _, vs, rfl, rfl, ha, hv, by have : k ≠ 1 := fun z => hs (.inr z); omega, c3, by rw [← R0s_len ra]; exact c4, fun q hq => p.tup hr hq (R0s_flat ra _) w⟩)
  · split at w
    · rename_i as ea
      obtain ⟨a, vs, rfl, ha, ra⟩ := rx.mlst hr ea
      cases ry.intE
      obtain ⟨c1, c2, c3, w⟩ := w
      exact .inr (.inr (.inr ⟨a, _, vs, rfl, rfl, ha, c2, c3, by rw [← R0s_len ra]; exact c1, fun q hq => p.tl hr hq (R0s_flat ra _) w⟩))
    · exact w.elim
  · exact w.elim
def rDivD : R2 := rI (fun _ j => divOk j) fun i j => .int (i.fdiv j)
theorem ok_fdiv {X : Cx} : OpR X (binaryOp .FloorDiv) rDivD := opI fun _ _ _ _ _ _ _ hc q => floordiv_int hc.1 q (.inl (PyProof.noPylong_of_log2 hc.2))
theorem sim_fdiv {K : PySem.W.Frag} : Sim2 K rDivD fdivW := by
  intro R h H G G' x y v u P Q hr rx ry w p
  unfold fdivW at w
  split at w
  · cases rx.intE; cases ry.intE
    exact ⟨_, _, rfl, rfl, w.1, p.int hr w.2⟩
  · exact w.elim
theorem sim_mod {K : PySem.W.Frag} : Sim2 K (rI (fun _ j => j ≠ 0) fun i j => .int (i.fmod j)) modW := by
  intro R h H G G' x y v u P Q hr rx ry w p
  unfold modW at w
  split at w
  · cases rx.intE; cases ry.intE
    exact ⟨_, _, rfl, rfl, w.1, p.int hr w.2⟩
  · exact w.elim
theorem sim_pow {K : PySem.W.Frag} : Sim2 K (rI CPow fun i j => .int (i ^ j.toNat)) powW := by
  intro R h H G G' x y v u P Q hr rx ry w p
  unfold powW at w
  split at w
  · cases rx.intE; cases ry.intE
    exact ⟨_, _, rfl, rfl, w.1, p.int hr w.2⟩
  · exact w.elim
theorem sim_neg {K : PySem.W.Frag} : Sim1 K (rU fun i => .int (-i)) negW := by
  intro R h H G x v P Q hr rx w p
  unfold negW at w
  split at w
  · cases rx.intE
    exact ⟨_, rfl, p.int hr w⟩
  · exact w.elim

/-! ### comparisons -/
theorem sim_ord {K : PySem.W.Frag} {f : Int → Int → Bool} : Sim2 K (rI0 fun i j => .bl (f i j)) (fun x y h Q => ordW f x y h (bo Q)) := by
  intro R h H G G' x y v u P Q hr rx ry w p
  have w := w
  unfold ordW at w
  split at w
  · cases rx.intE; cases ry.intE
    exact ⟨_, _, rfl, rfl, p.bl hr w⟩
  · exact w.elim
mutual
theorem dp_of {K : PySem.W.Frag} {H : Hp} {R : Nat → Addr} {n : Nat} : ∀ (d : D) (v : V), d.pure = true → R0 K H R n d v → Dp K H v d.pd
  | .non, v, _, r => by simp only [R0] at r; subst r; exact .non
  | .bl b, v, _, r => by simp only [R0] at r; subst r; exact .bl b
  | .int b, v, _, r => by simp only [R0] at r; subst r; exact .int b
  | .str b, v, _, r => by simp only [R0] at r; subst r; exact .str b
  | .tup ds, v, p, r => by
    simp only [R0] at r
    simp only [D.pure] at p
    obtain ⟨a, vs, rfl, q, r⟩ := r
    simp only [D.pd]
    exact .tup q (dps_of ds vs p r)
  | .loc _, v, p, _ => by simp [D.pure] at p
  | .tl _, v, p, _ => by simp [D.pure] at p
  | .td _ _ _, v, p, _ => by simp [D.pure] at p
  | .rl _, v, p, _ => by simp [D.pure] at p
theorem dps_of {K : PySem.W.Frag} {H : Hp} {R : Nat → Addr} {n : Nat} : ∀ (ds : List D) (vs : List V), D.pures ds = true → R0s K H R n ds vs → DpAll K H vs (D.pds ds)
  | [], vs, _, r => by simp only [R0s] at r; subst r; exact .nil
  | d :: ds, vs, p, r => by
    simp only [R0s] at r
    simp only [D.pures, Bool.and_eq_true] at p
    obtain ⟨v, us, rfl, r1, r2⟩ := r
    simp only [D.pds]
    exact .cons (dp_of d v p.1 r1) (dps_of ds us p.2 r2)
end
theorem RT.pureR {K : PySem.W.Frag} {H G : Hp} {R : Nat → Addr} {n : Nat} {d : D} {v : V} (p : d.pure = true) (r : RT K H R n G d v) : R0 K H R n d v := by
  cases d with
  | tl _ => simp [D.pure] at p
  | td _ _ _ => simp [D.pure] at p
  | _ => exact r
theorem snap_dp {K : PySem.W.Frag} {H G : Hp} {R : Nat → Addr} {h : Hd} {d : D} {v : V} {q : PyData} (hr : HRel K H R h) (r : RT K H R h.length G d v) (e : snap h d = some q) : Dp K H v q := by
  unfold snap at e
  split at e
  · rename_i p
    cases e
    exact dp_of d v p (r.pureR p)
  · split at e
    · rename_i xs ex
      split at e
      · rename_i p
        cases e
        obtain ⟨a, vs, rfl, s, z⟩ := r.lst hr ex
        exact .lst s (dps_of xs vs p z)
      · cases e
    · cases e
theorem dV_int {i j : Int} : decide (V.int i = V.int j) = decide (i = j) := by simp
theorem dV_str {i j : Str} : decide (V.str i = V.str j) = decide (i = j) := by simp
theorem dV_bl {i j : Bool} : decide (V.bl i = V.bl j) = decide (i = j) := by simp
def rEqA (K : PySem.W.Frag) : R2 := fun x y H Q => rEq x y H Q ∨ rEqD K x y H Q
def rNeA (K : PySem.W.Frag) : R2 := fun x y H Q => rNe x y H Q ∨ rNeD K x y H Q
theorem sim_eq {K : PySem.W.Frag} : Sim2 K (rEqA K) (fun x y h Q => eqW x y h (bo Q)) := by
  intro R h H G G' x y v u P Q hr rx ry w p
  have w := w
  unfold eqW at w
  split at w
  · cases rx.intE; cases ry.intE
    refine .inl ⟨rfl, ?_⟩
    rw [dV_int]
    exact p.bl hr w
  · cases rx.strE; cases ry.strE
    refine .inl ⟨rfl, ?_⟩
    rw [dV_str]
    exact p.bl hr w
  · cases rx.blE; cases ry.blE
    refine .inl ⟨rfl, ?_⟩
    rw [dV_bl]
    exact p.bl hr w
  · split at w
    · rename_i a b ea eb
      exact .inr ⟨a, b, snap_dp hr rx ea, snap_dp hr ry eb, w.1, w.2.1, p.bl hr w.2.2⟩
    · exact w.elim
theorem sim_ne {K : PySem.W.Frag} : Sim2 K (rNeA K) (fun x y h Q => eqW x y h (bon Q)) := by
  intro R h H G G' x y v u P Q hr rx ry w p
  have w := w
  unfold eqW at w
  split at w
  · cases rx.intE; cases ry.intE
    refine .inl ⟨rfl, ?_⟩
    rw [dV_int]
    exact p.bl hr w
  · cases rx.strE; cases ry.strE
    refine .inl ⟨rfl, ?_⟩
    rw [dV_str]
    exact p.bl hr w
  · cases rx.blE; cases ry.blE
    refine .inl ⟨rfl, ?_⟩
    rw [dV_bl]
    exact p.bl hr w
  · split at w
    · rename_i a b ea eb
      exact .inr ⟨a, b, snap_dp hr rx ea, snap_dp hr ry eb, w.1, w.2.1, p.bl hr w.2.2⟩
    · exact w.elim

/-! ### is, in -/
def isNonV : V → Bool
  | .non => true | _ => false
def isBlV (b : Bool) : V → Bool
  | .bl c => c == b | _ => false
def rIsA : R2 := fun x y H Q => (y = .non ∧ Q (.bl (isNonV x)) H) ∨ (∃ b, y = .bl b ∧ Q (.bl (isBlV b x)) H)
def rIsNotA : R2 := fun x y H Q => (y = .non ∧ Q (.bl (!isNonV x)) H) ∨ (∃ b, y = .bl b ∧ Q (.bl (!isBlV b x)) H)
theorem plainIs_bool {x : V} {v : Value} {b : Bool} (r : RelV x v) (nt : ∀ n, x ≠ .ty n) : plainIs v (.bool b) = true ∧ (v == Value.bool b) = isBlV b x := by
  cases x with
  | non => cases r; exact ⟨rfl, rfl⟩
  | bl c => cases r; exact ⟨rfl, by cases c <;> cases b <;> rfl⟩
  | int i => obtain ⟨t, rfl⟩ := r; exact ⟨rfl, rfl⟩
  | str i => obtain ⟨t, rfl⟩ := r; exact ⟨rfl, rfl⟩
  | byt i => obtain ⟨t, rfl⟩ := r; exact ⟨rfl, rfl⟩
  | flt i => obtain ⟨t, rfl⟩ := r; exact ⟨rfl, rfl⟩
  | ref i => cases r; exact ⟨rfl, rfl⟩
  | ty n => exact absurd rfl (nt n)
theorem ok_is {X : Cx} : OpR X (compareOp .Is) (fun x y H Q => (∀ n, x ≠ .ty n) ∧ rIsA x y H Q) := by
  intro pins s σ H x y v u Q I rx ry h
  obtain ⟨nt, h⟩ := h
  rcases h with ⟨rfl, q⟩ | ⟨b, rfl, q⟩
  · cases ry
    refine is_none_gen (fin_bl I q ?_)
    cases x <;> first
      | (cases rx; rfl)
      | (obtain ⟨t, rfl⟩ := rx; rfl)
  · cases ry
    obtain ⟨a, e⟩ := plainIs_bool (b := b) rx nt
    refine wpAny_is_plain a ?_
    rw [e]
    exact fin_bl I q rfl
theorem ok_isnot {X : Cx} : OpR X (compareOp .IsNot) (fun x y H Q => (∀ n, x ≠ .ty n) ∧ rIsNotA x y H Q) := by
  intro pins s σ H x y v u Q I rx ry h
  obtain ⟨nt, h⟩ := h
  rcases h with ⟨rfl, q⟩ | ⟨b, rfl, q⟩
  · cases ry
    refine isnot_none_gen (fin_bl I q ?_)
    cases x <;> first
      | (cases rx; rfl)
      | (obtain ⟨t, rfl⟩ := rx; rfl)
  · cases ry
    obtain ⟨a, e⟩ := plainIs_bool (b := b) rx nt
    refine wpAny_isNot_plain a ?_
    rw [e]
    exact fin_bl I q rfl
theorem RT.noty {K : PySem.W.Frag} {H G : Hp} {R : Nat → Addr} {m : Nat} {d : D} {v : V} (r : RT K H R m G d v) : ∀ n, v ≠ .ty n := by
  intro n e
  subst e
  cases d with
  | tl _ => obtain ⟨_, _, e, _⟩ := r; cases e
  | td _ _ _ => obtain ⟨_, e, _⟩ := r; cases e
  | tup ds => have r' : R0 K H R m (.tup ds) _ := r; simp only [R0] at r'; obtain ⟨_, _, e, _⟩ := r'; cases e
  | rl ds => have r' : R0 K H R m (.rl ds) _ := r; simp only [R0] at r'; obtain ⟨_, _, e, _⟩ := r'; cases e
  | loc i => have r' : R0 K H R m (.loc i) _ := r; simp only [R0] at r'; cases r'.2
  | _ => have r' := r; simp only [RT, R0] at r'; cases r'
theorem RT.isn {K : PySem.W.Frag} {H G : Hp} {R : Nat → Addr} {m : Nat} {d : D} {v : V} (r : RT K H R m G d v) : isNonV v = isNonD d := by
  cases d with
  | tl _ => obtain ⟨_, _, e, _⟩ := r; subst e; rfl
  | td _ _ _ => obtain ⟨_, e, _⟩ := r; subst e; rfl
  | tup ds => have r' : R0 K H R m (.tup ds) _ := r; simp only [R0] at r'; obtain ⟨_, _, e, _⟩ := r'; subst e; rfl
  | rl ds => have r' : R0 K H R m (.rl ds) _ := r; simp only [R0] at r'; obtain ⟨_, _, e, _⟩ := r'; subst e; rfl
  | loc i => have r' : R0 K H R m (.loc i) _ := r; simp only [R0] at r'; rw [r'.2]; rfl
  | _ => have r' := r; simp only [RT, R0] at r'; subst r'; rfl
theorem RT.isb {K : PySem.W.Frag} {H G : Hp} {R : Nat → Addr} {m : Nat} {d : D} {v : V} {b : Bool} (r : RT K H R m G d v) : isBlV b v = isBlD b d := by
  cases d with
  | tl _ => obtain ⟨_, _, e, _⟩ := r; subst e; rfl
  | td _ _ _ => obtain ⟨_, e, _⟩ := r; subst e; rfl
  | tup ds => have r' : R0 K H R m (.tup ds) _ := r; simp only [R0] at r'; obtain ⟨_, _, e, _⟩ := r'; subst e; rfl
  | rl ds => have r' : R0 K H R m (.rl ds) _ := r; simp only [R0] at r'; obtain ⟨_, _, e, _⟩ := r'; subst e; rfl
  | loc i => have r' : R0 K H R m (.loc i) _ := r; simp only [R0] at r'; rw [r'.2]; rfl
  | _ => have r' := r; simp only [RT, R0] at r'; subst r'; rfl
theorem sim_is {K : PySem.W.Frag} : Sim2 K (fun x y H Q => (∀ n, x ≠ .ty n) ∧ rIsA x y H Q) (fun x y h Q => isW x y h (bo Q)) := by
  intro R h H G G' x y v u P Q hr rx ry w p
  have w := w
  unfold isW at w
  refine ⟨rx.noty, ?_⟩
  split at w
  · cases ry.nonE
    exact .inl ⟨rfl, by rw [rx.isn]; exact p.bl hr w⟩
  · cases ry.blE
    exact .inr ⟨_, rfl, by rw [rx.isb]; exact p.bl hr w⟩
  · exact w.elim
theorem sim_isnot {K : PySem.W.Frag} : Sim2 K (fun x y H Q => (∀ n, x ≠ .ty n) ∧ rIsNotA x y H Q) (fun x y h Q => isW x y h (bon Q)) := by
  intro R h H G G' x y v u P Q hr rx ry w p
  have w := w
  unfold isW at w
  refine ⟨rx.noty, ?_⟩
  split at w
  · cases ry.nonE
    exact .inl ⟨rfl, by rw [rx.isn]; exact p.bl hr w⟩
  · cases ry.blE
    exact .inr ⟨_, rfl, by rw [rx.isb]; exact p.bl hr w⟩
  · exact w.elim
def toV : D → V
  | .non => .non | .bl b => .bl b | .int i => .int i | .str x => .str x | _ => .non
theorem R0.flat {K : PySem.W.Frag} {H : Hp} {R : Nat → Addr} {n : Nat} {d : D} {v : V} (f : flatD d = true) (r : R0 K H R n d v) : v = toV d ∧ flatV v = true := by
  cases d with
  | non => simp only [R0] at r; subst r; exact ⟨rfl, rfl⟩
  | bl _ => simp only [R0] at r; subst r; exact ⟨rfl, rfl⟩
  | int _ => simp only [R0] at r; subst r; exact ⟨rfl, rfl⟩
  | str _ => simp only [R0] at r; subst r; exact ⟨rfl, rfl⟩
  | _ => cases f
theorem RT.flat {K : PySem.W.Frag} {H G : Hp} {R : Nat → Addr} {n : Nat} {d : D} {v : V} (f : flatD d = true) (r : RT K H R n G d v) : R0 K H R n d v := by
  cases d with
  | tl _ => cases f
  | td _ _ _ => cases f
  | _ => exact r
theorem feq_eqV {a b : D} (fa : flatD a = true) (fb : flatD b = true) (h1 : ¬ (flatB b = true ∧ flatI a = true)) (h2 : ¬ (flatI b = true ∧ flatB a = true)) : eqV (toV a) (toV b) = feq a b := by
  cases a <;> first | (cases fa; done) | (cases b <;> first | (cases fb; done) | rfl | exact absurd ⟨rfl, rfl⟩ h1 | exact absurd ⟨rfl, rfl⟩ h2)
theorem any_feq {K : PySem.W.Frag} {H : Hp} {R : Nat → Addr} {n : Nat} {x : D} {v : V} (fx : flatD x = true) (rx : R0 K H R n x v) : ∀ {ys : List D} {us : List V}, R0s K H R n ys us → ys.all flatD = true →
    ¬ (flatB x = true ∧ ys.any flatI = true) → ¬ (flatI x = true ∧ ys.any flatB = true) → us.all flatV = true ∧ inV v us = ys.any fun z => feq z x
  | [], us, r, _, _, _ => by simp only [R0s] at r; subst r; exact ⟨rfl, rfl⟩
  | y :: ys, us, r, f, h1, h2 => by
    simp only [R0s] at r
    obtain ⟨u, us', rfl, r1, r2⟩ := r
    rw [List.all_cons, Bool.and_eq_true] at f
    rw [List.any_cons, Bool.or_eq_true] at h1 h2
    obtain ⟨e1, e2⟩ := any_feq fx rx r2 f.2 (fun z => h1 ⟨z.1, .inr z.2⟩) (fun z => h2 ⟨z.1, .inr z.2⟩)
    obtain ⟨ev, fv⟩ := rx.flat fx
    obtain ⟨eu, fu⟩ := r1.flat f.1
    refine ⟨by rw [List.all_cons, fu, e1]; rfl, ?_⟩
    unfold inV at e2 ⊢
    rw [List.any_cons, List.any_cons, e2, ev, eu, feq_eqV f.1 fx (fun z => h1 ⟨z.1, .inl z.2⟩) (fun z => h2 ⟨z.1, .inl z.2⟩)]
theorem sim_in {K : PySem.W.Frag} : Sim2 K (rIn K false) (fun x y h Q => inW x y h (bo Q)) := by
  intro R h H G G' x y v u P Q hr rx ry w p
  have w := w
  unfold inW at w
  split at w
  · rename_i ys e
    obtain ⟨⟨f1, f2, f3, f4⟩, w⟩ := w
    obtain ⟨a, vs, rfl, q, r⟩ := ry.seq hr e
    have rx' := rx.flat f1
    obtain ⟨e1, e2⟩ := any_feq f1 rx' r f2 f3 f4
    refine ⟨a, vs, rfl, q, (rx'.flat f1).2, e1, ?_⟩
    rw [if_neg Bool.false_ne_true, e2]
    exact p.bl hr w
  · exact w.elim
theorem sim_inD {K : PySem.W.Frag} : Sim2 K (rInD K false) (fun x y h Q => inDW x y h (bo Q)) := by
  intro R h H G G' x y v u P Q hr rx ry w p
  have w := w
  unfold inDW at w
  split at w
  · rename_i ys e
    obtain ⟨⟨⟨f1, f2⟩, f3, f4, f5⟩, w⟩ := w
    obtain ⟨a, vs, rfl, q, r⟩ := ry.seq hr e
    refine ⟨a, vs, x.pd, D.pds ys, rfl, q, dp_of x v f1 (rx.pureR f1), dps_of ys vs f2 r, f3, f4, f5, ?_⟩
    rw [if_neg Bool.false_ne_true]
    exact p.bl hr w
  · exact w.elim
theorem sim_notinD {K : PySem.W.Frag} : Sim2 K (rInD K true) (fun x y h Q => inDW x y h (bon Q)) := by
  intro R h H G G' x y v u P Q hr rx ry w p
  have w := w
  unfold inDW at w
  split at w
  · rename_i ys e
    obtain ⟨⟨⟨f1, f2⟩, f3, f4, f5⟩, w⟩ := w
    obtain ⟨a, vs, rfl, q, r⟩ := ry.seq hr e
    refine ⟨a, vs, x.pd, D.pds ys, rfl, q, dp_of x v f1 (rx.pureR f1), dps_of ys vs f2 r, f3, f4, f5, ?_⟩
    rw [if_pos rfl]
    exact p.bl hr w
  · exact w.elim
theorem sim_notin {K : PySem.W.Frag} : Sim2 K (rIn K true) (fun x y h Q => inW x y h (bon Q)) := by
  intro R h H G G' x y v u P Q hr rx ry w p
  have w := w
  unfold inW at w
  split at w
  · rename_i ys e
    obtain ⟨⟨f1, f2, f3, f4⟩, w⟩ := w
    obtain ⟨a, vs, rfl, q, r⟩ := ry.seq hr e
    have rx' := rx.flat f1
    obtain ⟨e1, e2⟩ := any_feq f1 rx' r f2 f3 f4
    refine ⟨a, vs, rfl, q, (rx'.flat f1).2, e1, ?_⟩
    rw [if_pos rfl, e2]
    exact p.bl hr w
  · exact w.elim

/-! ### places, slices -/
theorem atI_rel {K : PySem.W.Frag} {H : Hp} {R : Nat → Addr} {n : Nat} {xs : List D} {vs : List V} {i : Int} {d : D} (r : R0s K H R n xs vs) (e : atI xs i = some d) : ∃ v, atI vs i = some v ∧ R0 K H R n d v := by
  unfold atI at e ⊢
  rw [← R0s_len r]
  cases q : ixN xs.length i with
  | none => rw [q] at e; cases e
  | some j =>
    rw [q] at e
    exact R0s_get r e
theorem RT.int_iff {K : PySem.W.Frag} {H G : Hp} {R : Nat → Addr} {n : Nat} {d : D} {v : V} (r : RT K H R n G d v) {i : Int} (e : d = .int i) : v = .int i := by subst e; exact r
theorem sim_idx {K : PySem.W.Frag} : Sim2 K (rIx K) idxW := by
  intro R h H G G' x y v u P Q hr rx ry w p
  unfold idxW at w
  split at w
  · rename_i i
    cases ry.intE
    split at w
    · cases rx.strE
      obtain ⟨hz, w⟩ := w
      split at w
      · rename_i c e
        exact .inr (.inr ⟨_, _, c, rfl, rfl, hz, e, p.str hr w⟩)
      · exact w.elim
    · split at w
      · rename_i xs e
        split at w
        · rename_i d e2
          obtain ⟨a, vs, rfl, q, r⟩ := rx.seq hr e
          obtain ⟨v, ev, rv⟩ := atI_rel r e2
          rcases q with q | q
          · exact .inl ⟨a, vs, _, v, rfl, rfl, q, ev, p.here hr (.of rv) w⟩
          · exact .inr (.inl ⟨a, vs, _, v, rfl, rfl, q, ev, p.here hr (.of rv) w⟩)
        · exact w.elim
      · exact w.elim
  · exact w.elim
theorem cut_rel {K : PySem.W.Frag} {H : Hp} {R : Nat → Addr} {n : Nat} {xs : List D} {vs : List V} {lo hi : Option Int} (r : R0s K H R n xs vs) : R0s K H R n (cutD xs lo hi) (cutV vs lo hi) := by
  unfold cutD cutV
  rw [R0s_len r]
  exact R0s_take _ (R0s_drop _ r)
theorem cut_all {xs : List D} {lo hi : Option Int} (h : HT.sIx xs.length 0 lo = 0 ∧ HT.sIx xs.length xs.length hi = xs.length) : cutD xs lo hi = xs := by
  unfold cutD
  rw [h.1, h.2]
  simp
def rSlD (K : PySem.W.Frag) : V → Option Int → Option Int → Hp → VK → Prop := fun x lo hi H Q => rSlA K x lo hi H Q ∨ rSlL K x lo hi H Q
theorem ok_sl {X : Cx} : SlR X (rSlD X.K) := sl_tupA.or sl_list
theorem sim_sl {K : PySem.W.Frag} {lo hi : Option Int} : Sim1 K (fun x H Q => rSlD K x lo hi H Q) (fun x h Q => slW x lo hi h Q) := by
  intro R h H G x v P Q hr rx w p
  have w := w
  unfold slW at w
  split at w
  · obtain ⟨a, vs, rfl, q, r⟩ := rx.tup
    refine .inl ⟨a, vs, rfl, q, fun e => ?_, fun _ b hb => p.tup hr hb (cut_rel r) w⟩
    rw [← R0s_len r] at e
    rw [cut_all e] at w
    exact p.here hr (RT.of (show R0 K H R h.length (.tup _) _ from rx)) w
  · split at w
    · rename_i xs e
      obtain ⟨a, vs, rfl, q, r⟩ := rx.lst hr e
      exact .inr ⟨a, vs, rfl, q, fun b hb => p.tl hr hb (cut_rel r) w⟩
    · exact w.elim

theorem sim_rev {K : PySem.W.Frag} : Sim1 K (fun x H Q => (∃ a xs, x = .ref a ∧ SqL K H a xs ∧ ∀ p, H p = none → Q (.ref p) (upd H p (.lst xs.reverse))) ∨ ∃ a xs, x = .ref a ∧ SqT K H a xs ∧ ∀ p, H p = none → Q (.ref p) (upd H p (.tup xs.reverse))) revW := by
  intro R h H G x v P Q hr rx w p
  unfold revW at w
  split at w
  · obtain ⟨a, vs, rfl, ha, ra⟩ := rx.tup
    exact .inr ⟨a, vs, rfl, ha, fun q hq => p.tup hr hq (R0s_reverse ra) w⟩
  · split at w
    · rename_i xs e
      obtain ⟨a, vs, rfl, q, r⟩ := rx.lst hr e
      exact .inl ⟨a, vs, rfl, q, fun b hb => p.tl hr hb (R0s_reverse r) w⟩
    · exact w.elim

/-! ### built-in functions -/
def CSim1 (K : PySem.W.Frag) (r : List V → Hp → VK → Prop) (p : D → Hd → PD → Prop) : Prop := Sim1 K (fun x H Q => r [x] H Q) p
def CSim2 (K : PySem.W.Frag) (r : List V → Hp → VK → Prop) (p : D → D → Hd → PD → Prop) : Prop := Sim2 K (fun x y H Q => r [x, y] H Q) p
def rLenD (K : PySem.W.Frag) : List V → Hp → VK → Prop := fun xs H Q => ∃ x n, xs = [x] ∧ LenV K x H n ∧ Q (.int n) H
theorem sim_len {K : PySem.W.Frag} : CSim1 K (rLenD K) lenW := by
  intro R h H G x v P Q hr rx w p
  unfold lenW at w
  split at w
  · cases rx.strE
    exact ⟨_, _, rfl, ⟨w.1, rfl⟩, p.int hr w.2⟩
  · split at w
    · rename_i xs e
      obtain ⟨a, vs, rfl, q, r⟩ := rx.seq hr e
      refine ⟨_, _, rfl, ?_, p.int hr w⟩
      rcases q with q | q
      · exact .inl ⟨vs, q, R0s_len r⟩
      · exact .inr ⟨vs, q, R0s_len r⟩
    · exact w.elim
theorem sim_abs {K : PySem.W.Frag} : CSim1 K (fun xs H Q => ∃ i, xs = [.int i] ∧ Q (.int (if i < 0 then -i else i)) H) absW := by
  intro R h H G x v P Q hr rx w p
  unfold absW at w
  split at w
  · cases rx.intE
    exact ⟨_, rfl, p.int hr w⟩
  · exact w.elim
theorem sim_int {K : PySem.W.Frag} : CSim1 K (fun xs H Q => (∃ i, xs = [.int i] ∧ Q (.int i) H) ∨ ∃ k, xs = [.bl k] ∧ Q (.int (if k then 1 else 0)) H) intW := by
  intro R h H G x v P Q hr rx w p
  unfold intW at w
  split at w
  · cases rx.intE
    exact .inl ⟨_, rfl, p.int hr w⟩
  · cases rx.blE
    exact .inr ⟨_, rfl, p.int hr w⟩
  · exact w.elim
theorem sim_gcd {K : PySem.W.Frag} : CSim2 K rGcd gcdW := by
  intro R h H G G' x y v u P Q hr rx ry w p
  unfold gcdW at w
  split at w
  · cases rx.intE; cases ry.intE
    exact ⟨_, _, rfl, p.int hr w⟩
  · exact w.elim
theorem sim_list {K : PySem.W.Frag} : CSim1 K (fun xs H Q => ∃ p ys, xs = [.ref p] ∧ (SqL K H p ys ∨ SqT K H p ys) ∧ ∀ l, H l = none → Q (.ref l) (upd H l (.lst ys))) listW := by
  intro R h H G x v P Q hr rx w p
  unfold listW at w
  split at w
  · rename_i xs e
    obtain ⟨a, vs, rfl, q, r⟩ := rx.seq hr e
    exact ⟨a, vs, rfl, q, fun b hb => p.tl hr hb r w⟩
  · exact w.elim
theorem sim_tuple {K : PySem.W.Frag} : CSim1 K (fun xs H Q => ∃ p ys, xs = [.ref p] ∧ ((SqL K H p ys ∧ ∀ l, H l = none → Q (.ref l) (upd H l (.tup ys))) ∨ (SqT K H p ys ∧ Q (.ref p) H))) tupleW := by
  intro R h H G x v P Q hr rx w p
  unfold tupleW at w
  split at w
  · rename_i xs e
    obtain ⟨a, vs, rfl, q, r⟩ := rx.seq hr e
    rcases q with q | q
    · exact ⟨a, vs, rfl, .inl ⟨q, fun b hb => p.tup hr hb r w⟩⟩
    · refine ⟨a, vs, rfl, .inr ⟨q, p.here (d := .tup xs) hr ?_ w⟩⟩
      show R0 K H R h.length (.tup xs) _
      simp only [R0]
      exact ⟨a, vs, rfl, q, r⟩
  · exact w.elim
theorem ints_rel {K : PySem.W.Frag} {H : Hp} {R : Nat → Addr} {n : Nat} : ∀ {xs : List D} {ns : List Int} {vs : List V}, intsOf xs = some ns → R0s K H R n xs vs → vs = ns.map V.int
  | [], ns, vs, e, r => by
    simp only [intsOf, Option.some.injEq] at e
    subst e
    simp only [R0s] at r
    exact r
  | .int i :: xs, ns, vs, e, r => by
    simp only [intsOf] at e
    split at e
    · rename_i is e2
      cases e
      simp only [R0s, R0] at r
      obtain ⟨v, us, rfl, rfl, r⟩ := r
      rw [ints_rel e2 r]
      rfl
    · cases e
  | .non :: _, _, _, e, _ => by cases e
  | .bl _ :: _, _, _, e, _ => by cases e
  | .str _ :: _, _, _, e, _ => by cases e
  | .tup _ :: _, _, _, e, _ => by cases e
  | .loc _ :: _, _, _, e, _ => by cases e
  | .tl _ :: _, _, _, e, _ => by cases e
  | .td _ _ _ :: _, _, _, e, _ => by cases e
  | .rl _ :: _, _, _, e, _ => by cases e
theorem bls_rel {K : PySem.W.Frag} {H : Hp} {R : Nat → Addr} {n : Nat} : ∀ {xs : List D} {ns : List Bool} {vs : List V}, blsOf xs = some ns → R0s K H R n xs vs → vs = ns.map V.bl
  | [], ns, vs, e, r => by
    simp only [blsOf, Option.some.injEq] at e
    subst e
    simp only [R0s] at r
    exact r
  | .bl i :: xs, ns, vs, e, r => by
    simp only [blsOf] at e
    split at e
    · rename_i is e2
      cases e
      simp only [R0s, R0] at r
      obtain ⟨v, us, rfl, rfl, r⟩ := r
      rw [bls_rel e2 r]
      rfl
    · cases e
  | .non :: _, _, _, e, _ => by cases e
  | .int _ :: _, _, _, e, _ => by cases e
  | .str _ :: _, _, _, e, _ => by cases e
  | .tup _ :: _, _, _, e, _ => by cases e
  | .loc _ :: _, _, _, e, _ => by cases e
  | .tl _ :: _, _, _, e, _ => by cases e
  | .td _ _ _ :: _, _, _, e, _ => by cases e
  | .rl _ :: _, _, _, e, _ => by cases e
theorem ints_at {K : PySem.W.Frag} {R : Nat → Addr} {h : Hd} {H G : Hp} {x : D} {v : V} {ns : List Int} (hr : HRel K H R h) (rx : RT K H R h.length G x v) (e : intsAt h x = some ns) : ∃ a, v = .ref a ∧ SqL K H a (ns.map V.int) := by
  unfold intsAt at e
  split at e
  · rename_i xs e1
    obtain ⟨a, vs, rfl, q, r⟩ := rx.lst hr e1
    rw [ints_rel e r] at q
    exact ⟨a, rfl, q⟩
  · cases e
theorem bls_at {K : PySem.W.Frag} {R : Nat → Addr} {h : Hd} {H G : Hp} {x : D} {v : V} {ns : List Bool} (hr : HRel K H R h) (rx : RT K H R h.length G x v) (e : blsAt h x = some ns) : ∃ a, v = .ref a ∧ SqL K H a (ns.map V.bl) := by
  unfold blsAt at e
  split at e
  · rename_i xs e1
    obtain ⟨a, vs, rfl, q, r⟩ := rx.lst hr e1
    rw [bls_rel e r] at q
    exact ⟨a, rfl, q⟩
  · cases e
theorem rel_ints {K : PySem.W.Frag} {H : Hp} {R : Nat → Addr} {n : Nat} : ∀ (ns : List Int), R0s K H R n (ns.map D.int) (ns.map V.int)
  | [] => by simp [R0s]
  | n :: ns => by simp only [List.map_cons, R0s, R0]; exact ⟨_, _, rfl, rfl, rel_ints ns⟩
theorem sim_any {K : PySem.W.Frag} : CSim1 K (rAny K) anyW := by
  intro R h H G x v P Q hr rx w p
  unfold anyW at w
  split at w
  · rename_i bs e
    obtain ⟨a, rfl, q⟩ := bls_at hr rx e
    exact ⟨a, bs, rfl, q, p.bl hr w⟩
  · exact w.elim
theorem sim_all {K : PySem.W.Frag} : CSim1 K (rAll K) allW := by
  intro R h H G x v P Q hr rx w p
  unfold allW at w
  split at w
  · rename_i bs e
    obtain ⟨a, rfl, q⟩ := bls_at hr rx e
    exact ⟨a, bs, rfl, q, p.bl hr w⟩
  · exact w.elim
theorem sim_sum {K : PySem.W.Frag} : CSim1 K (rSum K) sumW := by
  intro R h H G x v P Q hr rx w p
  unfold sumW at w
  split at w
  · rename_i bs e
    obtain ⟨a, rfl, q⟩ := ints_at hr rx e
    exact ⟨a, bs, rfl, q, p.int hr w⟩
  · exact w.elim
theorem sim_maxL {K : PySem.W.Frag} : CSim1 K (rMax K) maxLW := by
  intro R h H G x v P Q hr rx w p
  unfold maxLW at w
  split at w
  · rename_i bs e
    obtain ⟨a, rfl, q⟩ := ints_at hr rx e
    split at w
    · rename_i m em
      have hm := List.max?_eq_some_iff.mp em
      refine ⟨a, bs, rfl, q, List.length_pos_of_mem hm.1, fun m2 h1 h2 => ?_⟩
      have : m2 = m := Int.le_antisymm (hm.2 m2 h1) (h2 m hm.1)
      subst this
      exact p.int hr w
    · exact w.elim
  · exact w.elim
theorem sim_minL {K : PySem.W.Frag} : CSim1 K (rMin K) minLW := by
  intro R h H G x v P Q hr rx w p
  unfold minLW at w
  split at w
  · rename_i bs e
    obtain ⟨a, rfl, q⟩ := ints_at hr rx e
    split at w
    · rename_i m em
      have hm := List.min?_eq_some_iff.mp em
      refine ⟨a, bs, rfl, q, List.length_pos_of_mem hm.1, fun m2 h1 h2 => ?_⟩
      have : m2 = m := Int.le_antisymm (h2 m hm.1) (hm.2 m2 h1)
      subst this
      exact p.int hr w
    · exact w.elim
  · exact w.elim
theorem sim_max2 {K : PySem.W.Frag} : CSim2 K (fun xs H Q => ∃ i j, xs = [.int i, .int j] ∧ Q (.int (if j > i then j else i)) H) max2W := by
  intro R h H G G' x y v u P Q hr rx ry w p
  unfold max2W at w
  split at w
  · cases rx.intE; cases ry.intE
    exact ⟨_, _, rfl, p.int hr w⟩
  · exact w.elim
theorem sim_min2 {K : PySem.W.Frag} : CSim2 K (fun xs H Q => ∃ i j, xs = [.int i, .int j] ∧ Q (.int (if j < i then j else i)) H) min2W := by
  intro R h H G G' x y v u P Q hr rx ry w p
  unfold min2W at w
  split at w
  · cases rx.intE; cases ry.intE
    exact ⟨_, _, rfl, p.int hr w⟩
  · exact w.elim
theorem sortI_pw (ns : List Int) : (sortI ns).Pairwise (· ≤ ·) := by
  have := List.pairwise_mergeSort (le := fun a b : Int => decide (a ≤ b)) (fun a b c h1 h2 => by simp at *; omega) (fun a b => by simp; omega) ns
  exact this.imp fun h => of_decide_eq_true h
theorem sortI_perm (ns : List Int) : (sortI ns).Perm ns := List.mergeSort_perm _ _
theorem ints_sq {K : PySem.W.Frag} {R : Nat → Addr} {h : Hd} {H G : Hp} {x : D} {v : V} {ns : List Int} (hr : HRel K H R h) (rx : RT K H R h.length G x v) (e : intsSq h x = some ns) : ∃ a, v = .ref a ∧ (SqL K H a (ns.map V.int) ∨ SqT K H a (ns.map V.int)) := by
  unfold intsSq at e
  split at e
  · rename_i xs e1
    obtain ⟨a, vs, rfl, q, r⟩ := rx.seq hr e1
    rw [ints_rel e r] at q
    exact ⟨a, rfl, q⟩
  · cases e
theorem sim_sorted {K : PySem.W.Frag} : CSim1 K (fun vs H Q => rSortedI K vs H Q ∨ rSortT K vs H Q) sortedW := by
  intro R h H G x v P Q hr rx w p
  unfold sortedW at w
  split at w
  · rename_i ns e
    have fin : ∀ (us : List Int) (b : Addr), us.Perm ns → us.Pairwise (· ≤ ·) → H b = none → Q (.ref b) (upd H b (.lst (us.map V.int))) := fun us b h1 h2 hb => by
      have : us = sortI ns := List.Perm.eq_of_pairwise (fun a b _ _ h1 h2 => Int.le_antisymm h1 h2) h2 (sortI_pw ns) (h1.trans (sortI_perm ns).symm)
      subst this
      exact p.tl hr hb (rel_ints _) w
    obtain ⟨a, rfl, q | q⟩ := ints_sq hr rx e
    · exact .inl ⟨a, ns, rfl, q, fin⟩
    · exact .inr ⟨a, ns, rfl, q, fin⟩
  · exact w.elim
/-- a heap with one new thing more -/
theorem Post.more {K : PySem.W.Frag} {R : Nat → Addr} {h : Hd} {H : Hp} {P : PD} {Q : VK} {a : Addr} {o : HO} (p : Post K R h H P Q) (ha : H a = none) : Post K R h (upd H a o) P Q := p.on (.laid ha)
theorem txts_rel {K : PySem.W.Frag} {H : Hp} {R : Nat → Addr} {n : Nat} : ∀ {xs : List D} {ns : List Str} {vs : List V}, txtsOf xs = some ns → R0s K H R n xs vs → vs = ns.map V.str
  | [], ns, vs, e, r => by
    cases e
    simp only [R0s] at r
    rw [r]
    rfl
  | .str i :: xs, ns, vs, e, r => by
    unfold txtsOf at e
    split at e
    · rename_i is e2
      cases e
      simp only [R0s, R0] at r
      obtain ⟨v, us, rfl, rfl, r⟩ := r
      rw [txts_rel e2 r]
      rfl
    · cases e
  | .non :: _, _, _, e, _ => by cases e
  | .int _ :: _, _, _, e, _ => by cases e
  | .bl _ :: _, _, _, e, _ => by cases e
  | .tup _ :: _, _, _, e, _ => by cases e
  | .loc _ :: _, _, _, e, _ => by cases e
  | .tl _ :: _, _, _, e, _ => by cases e
  | .td _ _ _ :: _, _, _, e, _ => by cases e
  | .rl _ :: _, _, _, e, _ => by cases e
theorem txts_at {K : PySem.W.Frag} {R : Nat → Addr} {h : Hd} {H G : Hp} {x : D} {v : V} {ns : List Str} (hr : HRel K H R h) (rx : RT K H R h.length G x v) (e : txtsAt h x = some ns) : ∃ a, v = .ref a ∧ SqL K H a (ns.map V.str) := by
  unfold txtsAt at e
  split at e
  · rename_i xs e1
    obtain ⟨a, vs, rfl, q, r⟩ := rx.lst hr e1
    rw [txts_rel e r] at q
    exact ⟨a, rfl, q⟩
  · cases e
theorem rel_strs {K : PySem.W.Frag} {H : Hp} {R : Nat → Addr} {n : Nat} : ∀ (ns : List Str), R0s K H R n (ns.map D.str) (ns.map V.str)
  | [] => by simp [R0s]
  | n :: ns => by simp only [List.map_cons, R0s, R0]; exact ⟨_, _, rfl, rfl, rel_strs ns⟩
theorem sim_sortedSet {K : PySem.W.Frag} {w : World} : Sim1 K (rSrtSetA K w) sortedSetW := by
  intro R h H G x v P Q hr rx w p
  unfold sortedSetW at w
  split at w
  · rename_i ns e
    obtain ⟨a, rfl, q⟩ := ints_sq hr rx e
    refine .inl ⟨a, ns, ⟨rfl, q, w.1⟩, fun b pl c us hb hs hm hp => ?_⟩
    exact (p.more hb).tl (hr.laid hb) hp (rel_ints _) (w.2 us hs hm)
  · split at w
    · rename_i ss e
      obtain ⟨a, rfl, q⟩ := txts_at hr rx e
      refine .inr ⟨a, ss, rfl, q, w.1, fun pl us hp hs hn hm => ?_⟩
      exact p.tl hr hp (rel_strs _) (w.2 us hs hn hm)
    · exact w.elim
theorem sim_lenSet {K : PySem.W.Frag} {w : World} : Sim1 K (rLenSet K w) lenSetW := by
  intro R h H G x v P Q hr rx w p
  unfold lenSetW at w
  split at w
  · rename_i ns e
    obtain ⟨a, rfl, q⟩ := ints_sq hr rx e
    refine ⟨a, ns, ⟨rfl, q, w.1⟩, fun b c us hb hs hm => ?_⟩
    exact (p.more hb).int (hr.laid hb) (w.2 us hs hm)
  · exact w.elim
/-! dicts -/
theorem dkey_keyD (k : Key) : dkey (keyD k) = some k := by cases k <;> rfl
theorem dkey_rel {K : PySem.W.Frag} {H G : Hp} {R : Nat → Addr} {n : Nat} {y : D} {u : V} {k : Key} (r : RT K H R n G y u) (e : dkey y = some k) : u = kV k := by
  cases y with
  | int i => cases e; exact r
  | str x => cases e; exact r
  | _ => cases e
theorem dGet_rel {K : PySem.W.Frag} {H : Hp} {R : Nat → Addr} {n : Nat} {k : Key} : ∀ {kvs : List (Key × V)} {vs : List D}, R0s K H R n vs (kvs.map (·.2)) →
    (match dGet (kvs.map fun p => keyD p.1) vs k with
      | some d => ∃ v, valV kvs k = some v ∧ R0 K H R n d v
      | none => valV kvs k = none)
  | [], vs, h => by
    cases vs <;> rfl
  | p :: kvs, vs, h => by
    cases vs with
    | nil => simp [R0s] at h
    | cons v vs =>
      simp only [List.map_cons, R0s] at h
      obtain ⟨w, r, e, h1, h2⟩ := h
      cases e
      simp only [List.map_cons, dGet, dkey_keyD, Option.some.injEq]
      by_cases hp : p.1 = k
      · rw [if_pos hp]
        exact ⟨p.2, valV_pos hp, h1⟩
      · rw [if_neg hp]
        have ih := dGet_rel (k := k) h2
        cases e : dGet (kvs.map fun p => keyD p.1) vs k with
        | none => rw [e] at ih; simp only at ih ⊢; rw [valV_neg hp]; exact ih
        | some d => rw [e] at ih; simp only at ih ⊢; rw [valV_neg hp]; exact ih
theorem dHas_rel {k : Key} (kvs : List (Key × V)) : dHas (kvs.map fun p => keyD p.1) k = kvs.any fun kv => decide (kv.1 = k) := by
  unfold dHas
  rw [List.any_map]
  congr 1
  funext p
  simp only [Function.comp, dkey_keyD, Option.some.injEq]
theorem zip_rel {K : PySem.W.Frag} {H : Hp} {R : Nat → Addr} {n : Nat} {k : Key} {d : D} {w : V} (hd : R0 K H R n d w) : ∀ {kvs : List (Key × V)} {vs : List D}, R0s K H R n vs (kvs.map (·.2)) →
    R0s K H R n (List.zipWith (fun x v => if dkey x = some k then d else v) (kvs.map fun p => keyD p.1) vs) ((kvs.map fun kv => if kv.1 = k then (kv.1, w) else kv).map (·.2))
  | [], vs, h => by simp [R0s]
  | p :: kvs, vs, h => by
    cases vs with
    | nil => simp [R0s] at h
    | cons v vs =>
      simp only [List.map_cons, R0s] at h
      obtain ⟨u, r, e, h1, h2⟩ := h
      cases e
      have ih := zip_rel (k := k) hd h2
      simp only [List.map_cons, List.zipWith_cons_cons, dkey_keyD, Option.some.injEq, R0s]
      by_cases hp : p.1 = k
      · rw [if_pos hp, if_pos hp]
        exact ⟨w, _, rfl, hd, ih⟩
      · rw [if_neg hp, if_neg hp]
        exact ⟨p.2, _, rfl, h1, ih⟩
theorem dPut_rel {K : PySem.W.Frag} {H : Hp} {R : Nat → Addr} {n : Nat} {k : Key} {d : D} {w : V} (hd : R0 K H R n d w) {kvs : List (Key × V)} {vs : List D} (h : R0s K H R n vs (kvs.map (·.2))) :
    (dPut (kvs.map fun p => keyD p.1) vs k d).1 = (putK kvs k w).map (fun p => keyD p.1) ∧ R0s K H R n (dPut (kvs.map fun p => keyD p.1) vs k d).2 ((putK kvs k w).map (·.2)) := by
  unfold dPut putK
  rw [dHas_rel]
  by_cases ha : (kvs.any fun kv => decide (kv.1 = k)) = true
  · rw [if_pos ha, if_pos ha]
    refine ⟨?_, zip_rel hd h⟩
    rw [List.map_map]
    refine List.map_congr_left fun p _ => ?_
    simp only [Function.comp]
    split <;> rfl
  · rw [if_neg ha, if_neg ha, List.map_append, List.map_append]
    exact ⟨rfl, R0s_append h (R0s_one hd)⟩
theorem dct_rel {K : PySem.W.Frag} {H G : Hp} {R : Nat → Addr} {h : Hd} {x : D} {v : V} {ks vs : List D} (hr : HRel K H R h) (rx : RT K H R h.length G x v) (e : dctOf h x = some (ks, vs)) :
    ∃ i kvs, v = .ref i ∧ H i = some (.dK kvs) ∧ ks = kvs.map (fun p => keyD p.1) ∧ R0s K H R h.length vs (kvs.map (·.2)) := by
  cases x with
  | loc i =>
    have rx' : R0 K H R h.length (.loc i) v := rx
    simp only [R0] at rx'
    simp only [dctOf] at e
    split at e
    · rename_i ks' vs' e2
      cases e
      have o := hr.obj i _ e2
      rcases o with ⟨_, kvs, a, b, c⟩ | ⟨t, _⟩
      · exact ⟨R i, kvs, rx'.2, a, b, c⟩
      · cases t
    · cases e
  | td tk ks' vs' =>
    obtain ⟨a, ea, _, o, _⟩ := rx
    cases tk with
    | true => cases e
    | false =>
      cases e
      rcases o with ⟨_, kvs, b, c, d⟩ | ⟨t, _⟩
      · exact ⟨a, kvs, ea, b, c, d⟩
      · cases t
  | _ => cases e
def rDGet : R2 := fun x y H Q => ∃ a v, x = .ref a ∧ DGet H a y (some v) ∧ Q v H
def rDIn : R2 := fun x y H Q => ∃ a o, y = .ref a ∧ DGet H a x o ∧ Q (.bl o.isSome) H
def rDNotIn : R2 := fun x y H Q => ∃ a o, y = .ref a ∧ DGet H a x o ∧ Q (.bl (!o.isSome)) H
theorem ix_dict {X : Cx} (hu : X.A.units + 1 < cLine) : IxR X rDGet := by
  intro value slice pins s σ H x y v u Q I rx ry h hs
  obtain ⟨a, z, rfl, g, q⟩ := h
  cases rx
  exact tail_any (dict_typeIs I g) PySem.F.slot_dict_getitem.lookup (d_getItem hu I g ry fun w' s' I' rw' => ⟨z, H, I', rw', q⟩) hs
theorem or_din {X : Cx} (hu : X.A.units + 1 < cLine) : OpR X (compareOp .In) rDIn := by
  intro pins s σ H x y v u Q I rx ry h
  obtain ⟨a, o, rfl, g, q⟩ := h
  cases ry
  exact d_in hu I g rx fun s' I' => ⟨.bl o.isSome, H, I', rfl, q⟩
theorem or_dnotin {X : Cx} (hu : X.A.units + 1 < cLine) : OpR X (compareOp .NotIn) rDNotIn := by
  intro pins s σ H x y v u Q I rx ry h
  obtain ⟨a, o, rfl, g, q⟩ := h
  cases ry
  exact d_notIn hu I g rx fun s' I' => ⟨.bl (!o.isSome), H, I', rfl, q⟩
theorem sim_dget {K : PySem.W.Frag} : Sim2 K rDGet dgetW := by
  intro R h H G G' x y v u P Q hr rx ry w p
  unfold dgetW at w
  split at w
  · rename_i ks vs k e1 e2
    obtain ⟨i, kvs, rfl, hH, rfl, r⟩ := dct_rel hr rx e1
    have g := dGet_rel (k := k) r
    split at w
    · rename_i d ed
      rw [ed] at g
      obtain ⟨z, ez, rz⟩ := g
      have ey := dkey_rel ry e2
      subst ey
      exact ⟨i, z, rfl, by rw [← ez]; exact DGet.k hH, p.here hr (RT.of rz) w⟩
    · exact w.elim
  · exact w.elim
theorem isSome_rel {K : PySem.W.Frag} {H : Hp} {R : Nat → Addr} {n : Nat} {k : Key} {kvs : List (Key × V)} {vs : List D} (r : R0s K H R n vs (kvs.map (·.2))) : (dGet (kvs.map fun p => keyD p.1) vs k).isSome = (valV kvs k).isSome := by
  have g := dGet_rel (k := k) r
  cases e : dGet (kvs.map fun p => keyD p.1) vs k with
  | none => rw [e] at g; simp only at g; rw [g]; rfl
  | some d => rw [e] at g; obtain ⟨z, ez, _⟩ := g; rw [ez]; rfl
theorem sim_din {K : PySem.W.Frag} : Sim2 K rDIn (fun x y h Q => dinW x y h (bo Q)) := by
  intro R h H G G' x y v u P Q hr rx ry w p
  unfold dinW at w
  split at w
  · rename_i ks vs k e1 e2
    obtain ⟨i, kvs, rfl, hH, rfl, r⟩ := dct_rel hr ry e1
    have ey := dkey_rel rx e2
    subst ey
    rw [isSome_rel r] at w
    exact ⟨i, _, rfl, DGet.k hH, p.bl hr w⟩
  · exact w.elim
theorem sim_dnotin {K : PySem.W.Frag} : Sim2 K rDNotIn (fun x y h Q => dinW x y h (bon Q)) := by
  intro R h H G G' x y v u P Q hr rx ry w p
  unfold dinW at w
  split at w
  · rename_i ks vs k e1 e2
    obtain ⟨i, kvs, rfl, hH, rfl, r⟩ := dct_rel hr ry e1
    have ey := dkey_rel rx e2
    subst ey
    rw [isSome_rel r] at w
    exact ⟨i, _, rfl, DGet.k hH, p.bl hr w⟩
  · exact w.elim
theorem sim_dlen {K : PySem.W.Frag} : CSim1 K (fun xs H Q => ∃ a kvs, xs = [V.ref a] ∧ H a = some (.dK kvs) ∧ Q (.int kvs.length) H) dlenW := by
  intro R h H G x v P Q hr rx w p
  unfold dlenW at w
  split at w
  · rename_i ks vs e
    obtain ⟨i, kvs, rfl, hH, rfl, r⟩ := dct_rel hr rx e
    rw [List.length_map] at w
    exact ⟨i, kvs, rfl, hH, p.int hr w⟩
  · exact w.elim
theorem R0s_ints {K : PySem.W.Frag} {H : Hp} {R : Nat → Addr} {n : Nat} (f : Nat → Int) : ∀ l : List Nat, R0s K H R n (l.map fun i => D.int (f i)) (l.map fun i => V.int (f i))
  | [] => by simp [R0s]
  | i :: l => by
    simp only [List.map_cons, R0s]
    exact ⟨_, _, rfl, rfl, R0s_ints f l⟩
theorem lift_dnew {K : PySem.W.Frag} (σ : L2.St) (H : Hp) (Q : VK) (w : lift L K (fun _ h P => P (.td false [] []) h) σ H Q) : tDNewK σ H Q := by
  obtain ⟨R, τ, h, P, sr, hr, w, post⟩ := w
  intro p hp
  have E : Ext K R h H R h (upd H p (.dK [])) := .laid hp
  refine post R h _ (.td false [] []) _ E (hr.laid hp) ⟨p, rfl, hp, .inl ⟨rfl, [], upd_same, rfl, ?_⟩, hr.nep hp⟩ w
  simp [R0s]
theorem sim_lrng {K : PySem.W.Frag} {ta : TEd} (σ : L2.St) (H : Hp) (Q : VK) (w : lift L K (fun τ h Q => ta τ h fun x h1 => lrngW x h1 Q) σ H Q) : tLstRg (tRg1 (lift L K ta)) σ H Q := by
  obtain ⟨R, τ, h, P, sr, hr, w, post⟩ := w
  refine ⟨R, τ, h, _, sr, hr, w, fun R1 h1 H1 x v E1 hr1 rx w1 => ?_⟩
  unfold lrngW at w1
  split at w1
  · rename_i n
    cases rx.intE
    obtain ⟨⟨b1, b2⟩, w1⟩ := w1
    refine ⟨n, rfl, ⟨by decide, by decide, b1, by omega, by omega⟩, fun q hq => ?_⟩
    have e : (n - 0).toNat = n.toNat := by rw [Int.sub_zero]
    have := (post.on E1).tl hr1 hq (R0s_ints (fun i => 0 + (i : Int)) (List.range n.toNat)) w1
    unfold rgV
    rw [e]
    exact this
  · exact w1.elim
theorem sim_bits {K : PySem.W.Frag} : Sim1 K (fun x H Q => ∃ i, x = .int i ∧ Q (.int (Builtin.Int.intBits i : Nat)) H) bitsW := by
  intro R h H G x v P Q hr rx w p
  unfold bitsW at w
  split at w
  · cases rx.intE
    exact ⟨_, rfl, p.int hr w⟩
  · exact w.elim

/-! ### methods -/
theorem RT.locE {K : PySem.W.Frag} {H G : Hp} {R : Nat → Addr} {n i : Nat} {v : V} (r : RT K H R n G (.loc i) v) : i < n ∧ v = .ref (R i) := by
  have r' : R0 K H R n (.loc i) v := r
  simp only [R0] at r'
  exact r'
/-- a list is changed -/
theorem Post.putL {K : PySem.W.Frag} {R : Nat → Addr} {h : Hd} {H : Hp} {P : PD} {Q : VK} {i : Nat} {vs vs' : List V} {ds' : List D} {d : D} {v : V} (p : Post K R h H P Q) (hr : HRel K H R h) (hi : i < h.length) (hw : H (R i) = some (.lst vs)) (r : R0s K H R h.length ds' vs')
    (rd : R0 K H R h.length d v) (w : P d (h.set i (.lst ds'))) : Q v (upd H (R i) (.lst vs')) := by
  have E : Ext K R h H R (h.set i (.lst ds')) (upd H (R i) (.lst vs')) := .put hr hi hw True.intro
  exact p R _ _ d v E (hr.put hi hw True.intro ⟨vs', upd_same, E.r0s r⟩) (RT.of (E.r0 rd)) w
theorem sim_append {K : PySem.W.Frag} : ∀ R h H G (x y : D) (v u : V) P Q, HRel K H R h → RT K H R h.length G x v → R0 K H R h.length y u → appendW x y h P → Post K R h H P Q → rAppend v [u] H Q := by
  intro R h H G x y v u P Q hr rx ry w p
  unfold appendW at w
  split at w
  · obtain ⟨hi, rfl⟩ := rx.locE
    split at w
    · rename_i xs e
      obtain ⟨_, vs, hw, r⟩ := hr.lst e
      exact ⟨_, vs, u, rfl, rfl, hw, by rw [← R0s_len r]; exact w.1, p.putL (d := .non) hr hi hw (R0s_append r (R0s_one ry)) (by simp only [R0]) w.2⟩
    · exact w.elim
  · exact w.elim
theorem sim_pop {K : PySem.W.Frag} : Sim1 K (fun x H Q => rPop x [] H Q) popW := by
  intro R h H G x v P Q hr rx w p
  unfold popW at w
  split at w
  · obtain ⟨hi, rfl⟩ := rx.locE
    split at w
    · rename_i xs e
      obtain ⟨_, vs, hw, r⟩ := hr.lst e
      split at w
      · rename_i y ey
        obtain ⟨u, eu, ru⟩ := R0s_get r ey
        exact ⟨_, vs, u, rfl, rfl, hw, by rw [← R0s_len r]; exact eu, p.putL hr hi hw (R0s_dropLast r) ru w⟩
      · exact w.elim
    · exact w.elim
  · exact w.elim
theorem sim_reverse {K : PySem.W.Frag} : Sim1 K (fun x H Q => rReverse x [] H Q) reverseW := by
  intro R h H G x v P Q hr rx w p
  unfold reverseW at w
  split at w
  · obtain ⟨hi, rfl⟩ := rx.locE
    split at w
    · rename_i xs e
      obtain ⟨_, vs, hw, r⟩ := hr.lst e
      exact ⟨_, vs, rfl, rfl, hw, p.putL (d := .non) hr hi hw (R0s_reverse r) (by simp only [R0]) w⟩
    · exact w.elim
  · exact w.elim

/-! ### isinstance of built-in types -/
def kitTy : D → String
  | .non => "NoneType" | .bl _ => "bool" | .int _ => "int" | .str _ => "str" | .tup _ => "tuple" | .tl _ => "list" | .rl _ => "list" | .td _ _ _ => "dict" | .loc _ => "list"
def instTypes : List String := ["int", "bool", "str", "tuple", "list", "dict"]
theorem kit_table : ∀ T ∈ instTypes, kitB "NoneType" T = some (T == "NoneType") ∧ kitB "bool" T = some (T == "bool" || T == "int") ∧ kitB "int" T = some (T == "int") ∧ kitB "str" T = some (T == "str") ∧
    kitB "tuple" T = some (T == "tuple") ∧ kitB "list" T = some (T == "list") ∧ kitB "dict" T = some (T == "dict") := by decide +kernel
theorem sim_inst {K : PySem.W.Frag} {T : String} (hT : T ∈ instTypes) : Sim1 K (fun x H Q => rIsi K [x, .ty T] H Q) (instW T) := by
  intro R h H G x v P Q hr rx w p
  obtain ⟨t1, t2, t3, t4, t5, t6, t7⟩ := kit_table T hT
  unfold instW at w
  split at w
  · rename_i b e
    have go : ∀ {t : String}, TyX K H v (.type t) → kitB t T = some b → rIsi K [v, .ty T] H Q := fun {t} ty k => ⟨v, .ty T, .type t, .type T, b, rfl, .ty T, ty, kit_ty k, p.bl hr w⟩
    unfold isInst at e
    split at e
    · cases rx.nonE; cases e; exact go (.base .non) t1
    · cases rx.blE; cases e; exact go (.base (.bl _)) t2
    · cases rx.intE; cases e; exact go (.base (.int _)) t3
    · cases rx.strE; cases e; exact go (.base (.str _)) t4
    · obtain ⟨a, vs, rfl, q, r⟩ := rx.tup
      cases e
      rcases q with (q | ⟨o, q⟩) | ⟨o, its, n, k, c, _⟩
      · exact go (.base (.tup q)) t5
      · exact go (.fTuple q) t5
      · exact go (.kTuple k c) t5
    · obtain ⟨a, vs, rfl, _, q, _⟩ := rx
      cases e
      exact go (.base (.lst q)) t6
    · obtain ⟨a, rfl, _, q, _⟩ := rx
      cases e
      rcases q with ⟨_, kvs, q, _⟩ | ⟨_, kvs, q, _⟩
      · exact go (.base (.dK q)) t7
      · exact go (.base (.dT q)) t7
    · rename_i ds
      have r' : R0 K H R h.length (.rl ds) v := rx
      simp only [R0] at r'
      obtain ⟨a, vs, rfl, q, _⟩ := r'
      cases e
      rcases q with ⟨o, q⟩ | ⟨o, its, n, k, c, _⟩
      · exact go (.base (.frz q)) t6
      · exact go (.kList k c) t6
    · obtain ⟨hi, rfl⟩ := rx.locE
      split at e
      · rename_i xs e2
        cases e
        obtain ⟨_, vs, hw, r⟩ := hr.lst e2
        exact go (.base (.lst hw)) t6
      · rename_i tk ks ws e2
        cases e
        have q : dcRel K H R h.length tk ks ws (H (R _)) := hr.obj _ _ e2
        rcases q with ⟨_, kvs, q, _⟩ | ⟨_, kvs, q, _⟩
        · exact go (.base (.dK q)) t7
        · exact go (.base (.dT q)) t7
      · cases e
  · exact w.elim
end Py

namespace Py
open PySem PySem.Spec PyProof.Rows L2
variable {L : Lnk}

/-! ### side conditions of the syntax -/
def noStar : Expr → Bool
  | .Starred _ _ => false
  | _ => true
theorem star_cons {e : Expr} {es : List Expr} {env : Env} (h : noStar e = true) : starEach (e :: es) env = (false, eval e env) :: starEach es env := by
  cases e <;> first | rfl | cases h
theorem star_any : ∀ {es : List Expr} {pos : Pos} {env : Env}, es.all noStar = true → (backTo pos (starEach es env)).any (·.1) = false
  | [], _, _, _ => rfl
  | e :: es, pos, env, h => by
    rw [List.all_cons, Bool.and_eq_true] at h
    rw [star_cons h.1]
    show (false || (backTo pos (starEach es env)).any (·.1)) = false
    rw [star_any h.2]; rfl
theorem star_all : ∀ {es : List Expr} {pos : Pos} {env : Env}, es.all noStar = true → (backTo pos (starEach es env)).all (fun x => !x.1) = true
  | [], _, _, _ => rfl
  | e :: es, pos, env, h => by
    rw [List.all_cons, Bool.and_eq_true] at h
    rw [star_cons h.1]
    show ((!false) && (backTo pos (starEach es env)).all (fun x => !x.1)) = true
    rw [star_all h.2]; rfl
def noSet : Expr → Bool
  | .Set _ _ _ => false
  | _ => true
theorem noSet_mark {e : Expr} {op : CmpOp} (h : noSet e = true) : behindInMarks op e = false := by
  cases e <;> first | rfl | cases h
theorem noSet_fold {e : Expr} {env : Env} (h : noSet e = true) : ∀ x, foldedSetIterable e env x = pure x := by
  intro x
  cases e <;> first | rfl | cases h
def noSlice : Expr → Bool
  | .Slice _ _ _ _ => false
  | _ => true
theorem noSlice_plain {e : Expr} (h : noSlice e = true) : PlainIx e := by
  intro o i
  cases e <;> first | rfl | cases h
def plainTest : Expr → Bool
  | .UnaryOp .Not _ _ => false
  | .BoolOp _ _ _ => false
  | .IfExp _ _ _ _ => false
  | .Compare _ _ _ _ => false
  | _ => true
theorem plainTest_ok {e : Expr} {env : Env} (h : plainTest e = true) : ∀ whole, isTrue e env whole = (do let v ← whole; standAt e.pos; holding [v] (truthy v)) := by
  intro whole
  cases e with
  | UnaryOp op x pos => cases op <;> first | rfl | cases h
  | _ => first | rfl | cases h
/-- no call of super -/
def noSuper : Expr → Bool
  | .Call (.Name id _) [] [] _ => id != "super"
  | _ => true
theorem noSuper_ok {e : Expr} {attr : Str} {env : Env} (h : noSuper e = true) : attributeBase e attr env (eval e env) = eval e env := by
  unfold attributeBase
  split
  · rename_i id p1 p2
    have h' : (id != ("super" : Str)) = true := h
    rw [if_pos (by rw [h']; rfl)]
  · rfl

/-! ### a value gets a place -/
theorem mat_ok {K : PySem.W.Frag} {R R1 : Nat → Addr} {h h1 : Hd} {G H1 : Hp} {d : D} {v : V} {P : PD} (E : Ext K R h G R1 h1 H1) (hr : HRel K H1 R1 h1) (r : RT K H1 R1 h1.length G d v) (w : mat d h1 P) :
    ∃ R2 h2 d', Ext K R h G R2 h2 H1 ∧ HRel K H1 R2 h2 ∧ (∀ i, i < h1.length → i < h2.length ∧ R2 i = R1 i) ∧ R0 K H1 R2 h2.length d' v ∧ P d' h2 := by
  have new : ∀ (a : Addr) (o : DO), G a = none → (∀ i, i < h1.length → R1 i ≠ a) → (∃ ob, H1 a = some ob) → (∀ R2 : Nat → Addr, (∀ i, i < h1.length → R2 i = R1 i) → ORel K H1 R2 (h1 ++ [o]).length a o) → v = .ref a → P (.loc h1.length) (h1 ++ [o]) →
      ∃ R2 h2 d', Ext K R h G R2 h2 H1 ∧ HRel K H1 R2 h2 ∧ (∀ i, i < h1.length → i < h2.length ∧ R2 i = R1 i) ∧ R0 K H1 R2 h2.length d' v ∧ P d' h2 := by
    intro a o ga ne there orl ev w
    obtain ⟨R2, agr, self⟩ : ∃ R2 : Nat → Addr, (∀ i, i < h1.length → R2 i = R1 i) ∧ R2 h1.length = a := ⟨fun i => if i = h1.length then a else R1 i, fun i hi => if_neg (Nat.ne_of_lt hi), if_pos rfl⟩
    have ll : (h1 ++ [o]).length = h1.length + 1 := by simp
    refine ⟨R2, h1 ++ [o], .loc h1.length, ⟨by rw [ll]; exact Nat.le_succ_of_le E.len, fun i hi => ?_, fun i a1 a2 => ?_, E.frame, E.stay, E.tup, E.frz⟩, ⟨fun i j hi hj e => ?_, fun i ob e => ?_⟩, fun i hi => ⟨by rw [ll]; exact Nat.lt_succ_of_lt hi, agr i hi⟩, ?_, w⟩
    · rw [agr i (Nat.lt_of_lt_of_le hi E.len)]; exact E.agr i hi
    · rw [ll] at a2
      by_cases hi : i = h1.length
      · subst hi; rw [self]; exact ga
      · have hl : i < h1.length := Nat.lt_of_le_of_ne (Nat.le_of_lt_succ a2) hi
        rw [agr i hl]; exact E.fresh i a1 hl
    · rw [ll] at hi hj
      by_cases qi : i = h1.length <;> by_cases qj : j = h1.length
      · rw [qi, qj]
      · have hl : j < h1.length := Nat.lt_of_le_of_ne (Nat.le_of_lt_succ hj) qj
        rw [agr j hl] at e
        subst qi
        rw [self] at e
        exact absurd e.symm (ne j hl)
      · have hl : i < h1.length := Nat.lt_of_le_of_ne (Nat.le_of_lt_succ hi) qi
        rw [agr i hl] at e
        subst qj
        rw [self] at e
        exact absurd e (ne i hl)
      · have hli : i < h1.length := Nat.lt_of_le_of_ne (Nat.le_of_lt_succ hi) qi
        have hlj : j < h1.length := Nat.lt_of_le_of_ne (Nat.le_of_lt_succ hj) qj
        rw [agr i hli, agr j hlj] at e
        exact hr.inj i j hli hlj e
    · by_cases hi : i < h1.length
      · rw [List.getElem?_append_left hi] at e
        rw [agr i hi]
        have x := hr.obj i ob e
        have up : ∀ ds vs, R0s K H1 R1 h1.length ds vs → R0s K H1 R2 (h1 ++ [o]).length ds vs :=
          fun ds vs => R0s_mono (fun _ _ z => z) (fun _ _ z => z) (fun j hj => ⟨by rw [ll]; exact Nat.lt_succ_of_lt hj, agr j hj⟩) ds vs
        cases ob with
        | lst ds => obtain ⟨vs, p, q⟩ := x; exact ⟨vs, p, up _ _ q⟩
        | dct tk ks ws =>
          rcases x with ⟨t, kvs, p, q, z⟩ | ⟨t, kvs, p, q, z⟩
          · exact .inl ⟨t, kvs, p, q, up _ _ z⟩
          · exact .inr ⟨t, kvs, p, q, up _ _ z⟩
        | ins c fs => exact x.elim
      · have hi2 : i = h1.length := by
          have := (List.getElem?_eq_some_iff.mp e).1
          rw [ll] at this
          omega
        subst hi2
        rw [List.getElem?_append_right (Nat.le_refl _)] at e
        simp at e
        subst e
        rw [self]
        exact orl _ agr
    · simp only [R0]
      exact ⟨by rw [ll]; exact Nat.lt_succ_self _, by rw [self]; exact ev⟩
  have up : ∀ (o : DO) (R2 : Nat → Addr), (∀ i, i < h1.length → R2 i = R1 i) → ∀ ds vs, R0s K H1 R1 h1.length ds vs → R0s K H1 R2 (h1 ++ [o]).length ds vs :=
    fun o R2 ag ds vs => R0s_mono (fun _ _ z => z) (fun _ _ z => z) (fun j hj => ⟨by simp; omega, ag j hj⟩) ds vs
  cases d with
  | tl xs =>
    obtain ⟨a, vs, e1, ga, q, r, ne⟩ := r
    exact new a (.lst xs) ga ne ⟨_, q⟩ (fun R2 ag => ⟨vs, q, up _ R2 ag _ _ r⟩) e1 w
  | td tk ks ws =>
    obtain ⟨a, e1, ga, q, ne⟩ := r
    refine new a (.dct tk ks ws) ga ne ?_ (fun R2 ag => ?_) e1 w
    · rcases q with ⟨_, kvs, p, _⟩ | ⟨_, kvs, p, _⟩ <;> exact ⟨_, p⟩
    · rcases q with ⟨t, kvs, p, q, z⟩ | ⟨t, kvs, p, q, z⟩
      · exact .inl ⟨t, kvs, p, q, up _ R2 ag _ _ z⟩
      · exact .inr ⟨t, kvs, p, q, up _ R2 ag _ _ z⟩
  | _ => exact ⟨R1, h1, _, E, hr, fun i hi => ⟨hi, rfl⟩, r, w⟩

/-! ### two, three in a row -/
section
variable {K : PySem.W.Frag} {ta tb tc : TEd}
theorem lift_un {r : V → Hp → VK → Prop} {p : D → Hd → PD → Prop} (sm : Sim1 K r p) (σ : L2.St) (H : Hp) (Q : VK) (w : lift L K (fun τ h Q => ta τ h fun x h1 => p x h1 Q) σ H Q) : tUn r (lift L K ta) σ H Q := by
  obtain ⟨R, τ, h, P, sr, hr, w, post⟩ := w
  exact ⟨R, τ, h, _, sr, hr, w, fun R1 h1 H1 x v E1 hr1 rx w1 => sm R1 h1 H1 H x v P Q hr1 rx w1 (post.on E1)⟩
theorem lift_bin {r : R2} {p : D → D → Hd → PD → Prop} (sm : Sim2 K r p) (σ : L2.St) (H : Hp) (Q : VK) (w : lift L K (fun τ h Q => ta τ h fun x h1 => tb τ h1 fun y h2 => p x y h2 Q) σ H Q) : tOp r (lift L K ta) (lift L K tb) σ H Q := by
  obtain ⟨R, τ, h, P, sr, hr, w, post⟩ := w
  refine ⟨R, τ, h, _, sr, hr, w, fun R1 h1 H1 x v E1 hr1 rx w1 => ?_⟩
  exact ⟨R1, τ, h1, _, E1.srel sr, hr1, w1, fun R2 h2 H2 y u E2 hr2 ry w2 => sm R2 h2 H2 H H1 x y v u P Q hr2 (E2.rt rx) ry w2 ((post.on E1).on E2)⟩
end

/-! ### the context -/
/-- the promise of a def, from what its call by values asks -/
def spD (cls : Nat → Value) (K : PySem.W.Frag) (c : CallX) (f : Nat) : Sp := fun vs H Q E => ∃ R h ds P x, R0s K H R h.length ds vs ∧ HRel K H R h ∧ c f ds h P x ∧ Post K R h H P Q ∧ XPost ⟨x, E, cls⟩ K H R h.length
/-- what the defs, globals, built-in names are: fn, the names of defs by number; gl, constants; bn, built-in names; ex, names for built-in functions of modules; xc, the names of exception classes; xs, is the class of the first number one of the second; xi, names that isinstance is asked with of an exception -/
structure Tab where
  fn : List Str
  gl : List (Str × D)
  bn : List Str
  ex : List (Str × String)
  xc : List Str
  xs : List (Nat × Nat × Bool)
  xi : List (Nat × Str × Bool)
/-- an exception class of the text -/
structure ExC (K : PySem.W.Frag) (mg : Str → Option Value) (x : Str) (v : Value) : Prop where
  ex : ∃ C, v = .ref C ∧ mg x = some (.ref C) ∧ PySem.W.excIn K C [.type "ValueError", .type "Exception", .type "BaseException", .type "object"] "ValueError.__new__" = true ∧ PySem.W.keepIn K (.ref C) = true ∧
    PySem.W.subIn K (.ref C) (.type "BaseException") = some true ∧ PySem.W.typeIn K (.ref C) = some (.type "type")
/-- what isinstance tells of an instance of the class v at the name x -/
def XIs (K : PySem.W.Frag) (mg : Str → Option Value) (v : Value) (x : Str) (b : Bool) : Prop :=
  ∃ C cv, v = .ref C ∧ ExcC K C ∧ ((∃ a, cv = .ref a ∧ mg x = some cv) ∨ (∃ id, cv = .type id ∧ mg x = none ∧ bootBuiltins x = some cv)) ∧ PySem.W.kitOne K (.ref C) cv = some b
def Lnk.quiet (L : Lnk) : Lnk := ⟨noX, fun _ _ _ => False, L.cls⟩
theorem xpost_quiet {K : PySem.W.Frag} {H : Hp} {R : Nat → Addr} {n : Nat} : XPost L.quiet K H R n := fun _ _ _ _ _ _ _ _ z => z.elim
theorem SRel.quiet {K : PySem.W.Frag} {H : Hp} {R : Nat → Addr} {n : Nat} {τ : Sd} {σ : L2.St} (s : SRel L K H R n τ σ) : SRel L.quiet K H R n τ σ := ⟨s.len, s.at_, xpost_quiet⟩
structure Good (L : Lnk) (T : Tab) (cl : CallD) (N : List Str) (sc ss : Scope) (X : Cx) : Prop where
  hN : X.N = N
  nd : N.Nodup
  hsc : X.env.scope = sc
  kind : sc.kind = .function
  calm : X.calm = true
  st : ∀ x, (ss.names.lookup x = some .local ∨ ss.names.lookup x = some .cell) → Loc X.env.scope x ∧ (X.fn x = true ∨ X.env.scope.names.lookup x = some .local)
  hu : X.A.units + 64 < cLine
  gd : X.A.guards = some []
  bn : ∀ x ∈ T.bn, X.mg x = none
  ex : ∀ x id, T.ex.lookup x = some id → X.mg x = some (.builtin id)
  gl : ∀ x d, (x, d) ∈ T.gl → ∃ u v, X.mg x = some u ∧ RelV v u ∧ ∀ H R n, R0 X.K H R n d v
  fn : ∀ f x, T.fn[f]? = some x → ∃ fa fd ps k, FnG X.prog X.w X.K X.mg X.base k fa fd ps (spD L.cls X.K cl.c f) ∧ Room k X.A ∧ X.mg x = some (.ref fa) ∧ PySem.W.keepIn X.K (.ref fa) = true ∧ Binds X.K fd ps []
  xc : ∀ c x, T.xc[c]? = some x → ExC X.K X.mg x (L.cls c)
  xs : ∀ c k b, (c, k, b) ∈ T.xs → PySem.W.exmOne X.K (L.cls c) (L.cls k) = some b
  xi : ∀ c x b, (c, x, b) ∈ T.xi → XIs X.K X.mg (L.cls c) x b
  lx : L.x = cl.x
  tk : Takes X (fun cls d _ H => L.E cls d H)
theorem relabel_eq {scope : Scope} {env : Env} : PySem.relabel scope env = relS scope env.scope := rfl
/-- a comprehension's block -/
theorem Good.blk {T : Tab} {cl : CallD} {N : List Str} {sc ss : Scope} {X : Cx} (c : Good L T cl N sc ss X) {scope : Scope} (hk : scope.kind = .function) (s : Shared) (H : Hp) (C : Addr) (l : List (Str × Addr)) (fp : List Addr) :
    Good L.quiet T cl.quiet N (relS scope sc) scope (X.blk s H scope (compEnvC scope l C X.env) fp) where
  hN := c.hN
  nd := c.nd
  hsc := by show relS scope X.env.scope = _; rw [c.hsc]
  kind := hk
  calm := c.calm
  st := fun x hx => by
    have e : (compEnvC scope l C X.env).scope = relS scope X.env.scope := rfl
    rcases hx with hx | hx
    · have k := lookup_relS_keep (sc := X.env.scope) (by decide) hx
      exact ⟨.inl k, .inr k⟩
    · have k := lookup_relS_keep (sc := X.env.scope) (by decide) hx
      exact ⟨.inr k, .inl (by show (scope.names.lookup x == some .cell) = true; rw [hx]; rfl)⟩
  hu := c.hu
  gd := c.gd
  bn := c.bn
  ex := c.ex
  gl := c.gl
  fn := c.fn
  xc := c.xc
  xs := c.xs
  xi := c.xi
  lx := rfl
  tk := takes0
end Py

namespace Py
open PySem PySem.Spec PyProof.Rows L2
/-! ### texts; repr -/
section
variable {X : Cx}
theorem op_notin_sign : OpR X (compareOp .NotIn) (fun x y H Q => ∃ (c : Nat) (z : Str), x = .str ⟨#[c]⟩ ∧ y = .str z ∧ Q (.bl (!decide (c ∈ z.cps.toList))) H) := by
  intro pins s σ H x y v u Q I rx ry h
  obtain ⟨c, z, rfl, rfl, q⟩ := h
  exact op_notIn_str pins s σ H _ _ v u Q I rx ry ⟨_, _, rfl, rfl, by rw [PySem.StrLaws.found_one z c]; exact q⟩
theorem foldl_app {α : Type} : ∀ (l : List (Array α)) (a : Array α), (l.foldl (· ++ ·) a).toList = a.toList ++ (l.map Array.toList).flatten
  | [], a => by simp
  | b :: l, a => by rw [List.foldl_cons, foldl_app l (a ++ b)]; simp
theorem strRep_fold (n : Nat) (a : Str) : (⟨(List.replicate n a.cps).foldl (· ++ ·) #[]⟩ : Str) = strRep n a := by
  unfold strRep
  congr 1
  rw [← Array.toList_inj, foldl_app]
  simp
theorem strRep_one (a : Str) : strRep 1 a = a := by
  obtain ⟨⟨l⟩⟩ := a
  simp [strRep]
theorem strRep_none {n : Nat} {a : Str} (h : a.length = 0) : strRep n a = a := by
  obtain ⟨⟨l⟩⟩ := a
  have e : l = [] := List.eq_nil_of_length_eq_zero h
  subst e
  simp [strRep]
def rSMul : R2 := fun x y H Q => ∃ a k, x = .str a ∧ y = .int k ∧ -(2 ^ 63) ≤ k ∧ k ≤ 1000 ∧ a.length ≤ 1000 ∧ Q (.str (strRep k.toNat a)) H
theorem op_smul : OpR X (binaryOp .Mult) rSMul := by
  intro pins s σ H x y v u Q I rx ry h
  obtain ⟨a, k, rfl, rfl, h1, h2, h3, q⟩ := h
  obtain ⟨t, rfl⟩ := rx
  obtain ⟨t', rfl⟩ := ry
  have hz : sizeLine > 2000000 := by decide
  have hp : ¬ k < 1 → a.length * k.toNat ≤ 1000000 := fun h0 => by
    have : k.toNat ≤ 1000 := by omega
    calc a.length * k.toNat ≤ 1000 * 1000 := Nat.mul_le_mul h3 this
      _ = 1000000 := rfl
  refine PySem.P.mul_str (by rw [decide_eq_false (by omega), decide_eq_false (by omega)]; rfl) (fun h0 _ hc => ?_) (fun h0 _ => ?_) ?_
  · have : (1000 : Int) ≤ (2 ^ 63 - 1) / k := (Int.le_ediv_iff_mul_le (by omega)).mpr (by omega)
    omega
  · have := hp h0
    exact decide_eq_false (by omega)
  · split
    · rename_i h0
      have e : k.toNat = 0 := by omega
      rw [e] at q
      exact ⟨by decide, ⟨.str _, H, I.tok _, ⟨_, rfl⟩, q⟩⟩
    · rename_i h0
      split
      · rename_i h1
        rw [Bool.or_eq_true, beq_iff_eq, beq_iff_eq] at h1
        have e : strRep k.toNat a = a := by
          rcases h1 with h1 | h1
          · subst h1
            exact strRep_one a
          · exact strRep_none h1
        rw [e] at q
        exact ⟨.str _, H, I, ⟨_, rfl⟩, q⟩
      · rw [strRep_fold]
        refine ⟨?_, ⟨.str _, H, I.tok _, ⟨_, rfl⟩, q⟩⟩
        have := hp h0
        have e : (strRep k.toNat a).length = k.toNat * a.length := by
          show (strRep k.toNat a).cps.size = _
          unfold strRep
          simp
          rfl
        rw [e, Nat.mul_comm]
        omega
mutual
theorem pd_noDict : ∀ d : D, d.pd.hasDict = false
  | .non => rfl
  | .bl _ => rfl
  | .int _ => rfl
  | .str _ => rfl
  | .tup xs => by simp only [D.pd, PyData.hasDict]; exact pds_noDict xs
  | .loc _ => rfl
  | .tl _ => rfl
  | .td _ _ _ => rfl
  | .rl _ => rfl
theorem pds_noDict : ∀ ds : List D, PyData.hasDictAll (D.pds ds) = false
  | [] => rfl
  | d :: ds => by simp only [D.pds, PyData.hasDictAll, pd_noDict d, pds_noDict ds]; rfl
end
theorem call_reprD (hu : X.A.units + 64 < cLine) (hg : X.A.guards = some []) : CallR X (.builtin "repr") (fun xs H Q => ∃ a d, xs = [.ref a] ∧ Dp X.K H (.ref a) d ∧ d.showable = true ∧ d.hasDict = false ∧ d.depth ≤ 60 ∧ d.shown.length ≤ sizeLine ∧ Q (.str d.shown) H) := by
  intro pins s σ H xs us Q I r h
  obtain ⟨a, d, rfl, hd, h1, h2, h3, h4, q⟩ := h
  obtain ⟨u, rfl, rx⟩ := vals1 r
  cases rx
  obtain ⟨as, rd⟩ := Dp.reads I d (.ref a) (.ref a) hd rfl
  exact repr_of_reads' rd h1 (PyData.noDict_hsm h2) hg (by omega) (fun _ _ e => e) (fun h' u tk hk => ⟨.str d.shown, H, I.kept (h' := h') (t' := tk) hk, ⟨u, rfl⟩, q⟩) h4
end
section
variable {K : PySem.W.Frag}
theorem one_sign {a : Str} {c : Nat} (h : a.cps.toList = [c]) : a = ⟨#[c]⟩ := by
  obtain ⟨⟨l⟩⟩ := a
  simp only at h
  rw [h]
theorem sim_sin : Sim2 K (fun x y H Q => ∃ (c : Nat) (z : Str), x = .str ⟨#[c]⟩ ∧ y = .str z ∧ Q (.bl (decide (c ∈ z.cps.toList))) H) (fun x y h Q => sinW x y h (bo Q)) := by
  intro R h H G G' x y v u P Q hr rx ry w p
  unfold sinW at w
  split at w
  · cases rx.strE; cases ry.strE
    split at w
    · rename_i c e
      exact ⟨c, _, by rw [one_sign e], rfl, p.bl hr w⟩
    · exact w.elim
  · exact w.elim
theorem sim_snotin : Sim2 K (fun x y H Q => ∃ (c : Nat) (z : Str), x = .str ⟨#[c]⟩ ∧ y = .str z ∧ Q (.bl (!decide (c ∈ z.cps.toList))) H) (fun x y h Q => sinW x y h (bon Q)) := by
  intro R h H G G' x y v u P Q hr rx ry w p
  unfold sinW at w
  split at w
  · cases rx.strE; cases ry.strE
    split at w
    · rename_i c e
      exact ⟨c, _, by rw [one_sign e], rfl, p.bl hr w⟩
    · exact w.elim
  · exact w.elim
theorem sim_smul : Sim2 K rSMul smulW := by
  intro R h H G G' x y v u P Q hr rx ry w p
  unfold smulW at w
  split at w
  · cases rx.strE; cases ry.intE
    exact ⟨_, _, rfl, rfl, w.1.1, w.1.2.1, w.1.2.2, p.str hr w.2⟩
  · exact w.elim
theorem sim_strS : CSim1 K (fun xs H Q => ∃ a, xs = [.str a] ∧ Q (.str a) H) strSW := by
  intro R h H G x v P Q hr rx w p
  unfold strSW at w
  split at w
  · cases rx.strE
    exact ⟨_, rfl, p.str hr w⟩
  · exact w.elim
theorem sim_repr : CSim1 K (fun xs H Q => ∃ a d, xs = [.ref a] ∧ Dp K H (.ref a) d ∧ d.showable = true ∧ d.hasDict = false ∧ d.depth ≤ 60 ∧ d.shown.length ≤ sizeLine ∧ Q (.str d.shown) H) reprW := by
  intro R h H G x v P Q hr rx w p
  unfold reprW at w
  split at w
  · rename_i xs
    obtain ⟨⟨h1, h2, h3, h4⟩, w⟩ := w
    have r0 : R0 K H R h.length (.tup xs) v := rx
    have dp := dp_of (.tup xs) v (by simpa only [D.pure] using h1) r0
    obtain ⟨a, vs, rfl, _, _⟩ := rx.tup
    exact ⟨a, _, rfl, dp, h2, pd_noDict _, h3, h4, p.str hr w⟩
  · exact w.elim
theorem sim_popAt : ∀ R h H G (x y : D) (v u : V) P Q, HRel K H R h → RT K H R h.length G x v → R0 K H R h.length y u → popAtW x y h P → Post K R h H P Q → rPopAt v [u] H Q := by
  intro R h H G x y v u P Q hr rx ry w p
  unfold popAtW at w
  split at w
  · obtain ⟨hi, rfl⟩ := rx.locE
    simp only [R0] at ry
    subst ry
    split at w
    · rename_i xs e
      obtain ⟨⟨b1, b2⟩, w⟩ := w
      obtain ⟨_, vs, hw, r⟩ := hr.lst e
      split at w
      · rename_i n en
        split at w
        · rename_i z ez
          obtain ⟨q, eq, rq⟩ := R0s_get r ez
          have hl := R0s_len r
          obtain ⟨s1, s2, _, _⟩ := ixN_seq en
          exact ⟨_, vs, _, n, q, rfl, rfl, hw, by omega, by omega, by rw [← hl]; exact s1, eq, p.putL hr hi hw (R0s_eraseIdx n r) rq w⟩
        · exact w.elim
      · exact w.elim
    · exact w.elim
  · exact w.elim
end
end Py

namespace Py
open PySem PySem.Spec PyProof.Rows L2
variable {L : Lnk}

/-! ### walks -/
def Walks (K : PySem.W.Frag) (R0 : Nat → Addr) (h0 : Hd) (H0 : Hp) (w : Iter) (J : It) : Prop :=
  ∀ R h H, Ext K R0 h0 H0 R h H → HRel K H R h → w.ok h →
    (∀ i, i < w.xs.length → J.go i H) ∧ (∀ i, w.xs.length ≤ i → J.stop i H) ∧
    (∀ i x H', i < w.xs.length → J.yld i H x H' → ∃ d, w.xs[i]? = some d ∧ Ext K R h H R h H' ∧ HRel K H' R h ∧ Py.R0 K H' R h.length d x)
def liftI (L : Lnk) (K : PySem.W.Frag) (t : TId) : TI := fun σ H Z => ∃ R τ h P, SRel L K H R h.length τ σ ∧ HRel K H R h ∧ t τ h P ∧
  ∀ R' h' H' w J, Ext K R h H R' h' H' → HRel K H' R' h' → P w h' → Walks K R' h' H' w J → Z J H'
section
variable {K : PySem.W.Frag} {R : Nat → Addr} {h : Hd} {H : Hp} {xs : List D} {vs : List V} {a : Addr}
theorem walks_fix {J : It} (r : R0s K H R h.length xs vs) (go : ∀ R' h' H', Ext K R h H R' h' H' → ∀ i, i < vs.length → J.go i H') (stop : ∀ R' h' H', Ext K R h H R' h' H' → ∀ i, vs.length ≤ i → J.stop i H')
    (yld : ∀ R' h' H', Ext K R h H R' h' H' → ∀ i x H2, J.yld i H' x H2 → H2 = H' ∧ vs[i]? = some x) : Walks K R h H (.vals xs) J := by
  intro R' h' H' E hr ok
  have hl := R0s_len r
  refine ⟨fun i hi => go _ _ _ E i (by rw [← hl]; exact hi), fun i hi => stop _ _ _ E i (by rw [← hl]; exact hi), fun i x H2 hi0 y => ?_⟩
  obtain ⟨e, ex⟩ := yld _ _ _ E i x H2 y
  subst e
  have hi : i < xs.length := by rw [hl]; exact (List.getElem?_eq_some_iff.mp ex).1
  obtain ⟨u, eu, ru⟩ := R0s_get r (List.getElem?_eq_getElem hi)
  rw [ex] at eu
  cases eu
  exact ⟨xs[i], List.getElem?_eq_getElem hi, .refl, hr, E.r0 ru⟩
theorem walks_lst (q : ∀ R' h' H', Ext K R h H R' h' H' → SqL K H' a vs) (r : R0s K H R h.length xs vs) : Walks K R h H (.vals xs) (Itl K a) :=
  walks_fix r (fun R' h' H' E i hi => ⟨vs, vs[i], q _ _ _ E, List.getElem?_eq_getElem hi⟩) (fun R' h' H' E i hi => ⟨vs, q _ _ _ E, hi⟩)
    fun R' h' H' E i x H2 y => ⟨y.1, y.2 vs (q _ _ _ E)⟩
theorem walks_tup (q : SqT K H a vs) (r : R0s K H R h.length xs vs) : Walks K R h H (.vals xs) (Itt K a) :=
  walks_fix r (fun R' h' H' E i hi => ⟨vs, vs[i], E.tup _ _ q, List.getElem?_eq_getElem hi⟩) (fun R' h' H' E i hi => ⟨vs, E.tup _ _ q, hi⟩)
    fun R' h' H' E i x H2 y => ⟨y.1, y.2 vs (E.tup _ _ q)⟩
theorem walks_live {j : Nat} {ys : List D} (hj : j < h.length) : Walks K R h H (.live j ys) (Itl K (R j)) := by
  intro R' h' H' E hr ok
  have ok' : h'[j]? = some (.lst ys) := ok
  obtain ⟨_, vs, hw, r⟩ := hr.lst ok'
  rw [E.agr j hj] at hw
  have hl := R0s_len r
  refine ⟨fun i hi => ⟨vs, vs[i]'(by rw [← hl]; exact hi), .of hw, List.getElem?_eq_getElem _⟩, fun i hi => ⟨vs, .of hw, by rw [← hl]; exact hi⟩, fun i x H2 hi0 y => ?_⟩
  obtain ⟨e, y⟩ := y
  subst e
  have ex := y vs (.of hw)
  have hi : i < ys.length := by rw [hl]; exact (List.getElem?_eq_some_iff.mp ex).1
  obtain ⟨u, eu, ru⟩ := R0s_get r (List.getElem?_eq_getElem hi)
  rw [ex] at eu
  cases eu
  exact ⟨ys[i], List.getElem?_eq_getElem hi, .refl, hr, ru⟩
theorem walks_range {lo : Int} {n : Nat} : Walks K R h H (.vals (rangeD lo n)) (Itr lo n) := by
  intro R' h' H' E hr ok
  have hl : (rangeD lo n).length = n := by simp [rangeD]
  refine ⟨fun i hi => by have : i < (rangeD lo n).length := hi; rw [hl] at this; exact this, fun i hi => by have : (rangeD lo n).length ≤ i := hi; rw [hl] at this; exact this, fun i x H2 hi0 y => ?_⟩
  obtain ⟨e, y⟩ := y
  subst e y
  have hi1 : i < n := by have : i < (rangeD lo n).length := hi0; rw [hl] at this; exact this
  refine ⟨.int (lo + (i : Int)), ?_, .refl, hr, by simp only [Py.R0]⟩
  show (rangeD lo n)[i]? = _
  unfold rangeD
  rw [List.getElem?_map, List.getElem?_range hi1]
  rfl
theorem walks_str {x : Str} : Walks K R h H (.vals (chrs x)) (Its x) := by
  intro R' h' H' E hr ok
  have hl : (chrs x).length = x.cps.size := by simp [chrs]
  refine ⟨fun i hi => by have : i < (chrs x).length := hi; rw [hl] at this; exact this, fun i hi => by have : (chrs x).length ≤ i := hi; rw [hl] at this; exact this, fun i v H2 hi0 y => ?_⟩
  obtain ⟨e, c, ec, ev⟩ := y
  subst e ev
  refine ⟨.str ⟨#[c]⟩, ?_, .refl, hr, by simp only [R0]⟩
  show (chrs x)[i]? = _
  unfold chrs
  rw [List.getElem?_map, Array.getElem?_toList, ec]
  rfl
end
/-- what is walked, by what the value turns out to be -/
def iAny (K : PySem.W.Frag) (te : TE) : TI := fun σ H Z => te σ H fun x H1 => (∃ a, x = .ref a ∧ (∃ xs, SqL K H1 a xs) ∧ Z (Itl K a) H1) ∨ (∃ a, x = .ref a ∧ (∃ xs, SqT K H1 a xs) ∧ Z (Itt K a) H1) ∨ (∃ z, x = .str z ∧ Z (Its z) H1)
theorem pi_any {X : Cx} {tg e : Expr} {te : TE} (he : PE X e te) : PI X tg e (iAny X.K te) := by
  refine ⟨fun pins s σ H Z I h => ?_⟩
  refine thn (he.run pins s σ H _ I h) fun v s1 ⟨y, H1, I1, r1, q⟩ => ?_
  rcases q with ⟨a, ex, ⟨xs, hq⟩, q⟩ | ⟨a, ex, ⟨xs, hq⟩, q⟩ | ⟨x, ex, q⟩
  · subst ex
    cases r1
    obtain ⟨its, rv, p, hz⟩ := I1.list hq
    refine wpAny_pyIter_list p.isList ?_
    refine ⟨s1.heap.objs.size, [s1.heap.objs.size], _, _, H1, rfl, I1.kept (t' := s1.toks) fun b o e => Heap.get?_push_of_some _ e, turn_list a _, ⟨_, Heap.get?_push_size _ rfl, rfl, rfl⟩, fun b hb => ?_, q⟩
    have e : b = s1.heap.objs.size := by simpa using hb
    subst e
    exact I1.fpOk (Nat.le_refl _) (I1.hok.fresh (Nat.le_refl _))
  · subst ex
    cases r1
    obtain ⟨its, rv, p, hz⟩ := I1.tuple hq
    refine wpAny_pyIter_tuple (show s1.heap.IsTuple a its.toArray from p) ?_
    refine ⟨s1.heap.objs.size, [s1.heap.objs.size], _, _, H1, rfl, I1.kept (t' := s1.toks) fun b o e => Heap.get?_push_of_some _ e, turn_tuple a _, ⟨_, Heap.get?_push_size _ rfl, rfl, rfl⟩, fun b hb => ?_, q⟩
    have e : b = s1.heap.objs.size := by simpa using hb
    subst e
    exact I1.fpOk (Nat.le_refl _) (I1.hok.fresh (Nat.le_refl _))
  · subst ex
    obtain ⟨t, rfl⟩ := r1
    cases ha : x.cps.all (· < 128)
    · exact wpAny_pyIter_wide ha (pi_one (tk := s1.toks) I1 _ (turn_str _ x t "str_iterator" (.inr rfl)) ⟨_, Heap.get?_push_size _ rfl, rfl, rfl⟩ q)
    · exact wpAny_pyIter_ascii ha (pi_one (tk := s1.toks) I1 _ (turn_str _ x t "str_ascii_iterator" (.inl rfl)) ⟨_, Heap.get?_push_size _ rfl, rfl, rfl⟩ q)
theorem lift_it {K : PySem.W.Frag} {te : TEd} (σ : L2.St) (H : Hp) (Z : It → Hp → Prop) (w : liftI L K (itOf te) σ H Z) : iAny K (lift L K te) σ H Z := by
  obtain ⟨R, τ, h, P, sr, hr, w, post⟩ := w
  refine ⟨R, τ, h, _, sr, hr, w, fun R1 h1 H1 d v E1 hr1 rd w1 => ?_⟩
  have w1 := w1
  split at w1
  · rename_i xs
    obtain ⟨a, vs, rfl, q, r⟩ := rd.tup
    exact .inr (.inl ⟨a, rfl, ⟨vs, q⟩, post _ _ _ _ _ E1 hr1 w1 (walks_tup q r)⟩)
  · rename_i xs
    obtain ⟨a, vs, rfl, g, q, r, ne⟩ := rd
    refine .inl ⟨a, rfl, ⟨vs, .of q⟩, post _ _ _ _ _ E1 hr1 w1 (walks_lst (fun R' h' H' E => .of (E.frame a _ q ne)) r)⟩
  · have rd' : R0 K H1 R1 h1.length (.rl _) v := rd
    simp only [R0] at rd'
    obtain ⟨a, vs, rfl, q, r⟩ := rd'
    exact .inl ⟨a, rfl, ⟨vs, q.sq⟩, post _ _ _ _ _ E1 hr1 w1 (walks_lst (fun R' h' H' E => (E.frz a vs q).sq) r)⟩
  · cases rd.strE
    exact .inr (.inr ⟨_, rfl, post _ _ _ _ _ E1 hr1 w1.2 walks_str⟩)
  · rename_i j
    obtain ⟨hj, rfl⟩ := rd.locE
    split at w1
    · rename_i xs e
      obtain ⟨_, vs, hw, r⟩ := hr1.lst e
      exact .inl ⟨_, rfl, ⟨vs, .of hw⟩, post _ _ _ _ _ E1 hr1 w1 (walks_live hj)⟩
    · exact w1.elim
  · exact w1.elim
end Py

namespace Py
open PySem PySem.Spec PyProof.Rows L2
variable {L : Lnk}

/-! ### targets -/
def gAll : List Nat → TGs
  | [] => gNil
  | i :: is => gCons (gName i) (gAll is)
def gOf (K : PySem.W.Frag) : Pat → TG
  | .nm i => gName i
  | .tp is => gTup K is.length (gAll is)
theorem SRel.set {K : PySem.W.Frag} {H : Hp} {R : Nat → Addr} {n i : Nat} {τ : Sd} {σ : L2.St} {d : D} {v : V} (s : SRel L K H R n τ σ) (r : R0 K H R n d v) : SRel L K H R n (τ.set i (some d)) (σ.set i (some v)) := by
  refine ⟨by rw [List.length_set, List.length_set]; exact s.len, fun j e q => ?_, s.xp⟩
  by_cases hj : i = j
  · subst hj
    by_cases hi : i < τ.length
    · rw [List.getElem?_set_self hi] at q
      cases q
      exact ⟨v, List.getElem?_set_self (by rw [← s.len]; exact hi), r⟩
    · rw [List.getElem?_eq_none (by simpa using hi)] at q
      cases q
  · rw [List.getElem?_set_ne hj] at q ⊢
    exact s.at_ j e q
theorem SRel.wipe {K : PySem.W.Frag} {H : Hp} {R : Nat → Addr} {n : Nat} {τ : Sd} {σ : L2.St} (s : SRel L K H R n τ σ) : ∀ vs : List Nat, SRel L K H R n (wipeD τ vs) (L2.wipe σ vs)
  | [] => s
  | i :: vs => by
    have t := SRel.wipe s vs
    unfold wipeD L2.wipe
    refine ⟨by rw [List.length_set, List.length_set]; exact t.len, fun j e q => ?_, t.xp⟩
    by_cases hj : i = j
    · subst hj
      by_cases hi : i < (wipeD τ vs).length
      · rw [List.getElem?_set_self hi] at q
        cases q
      · rw [List.getElem?_eq_none (by simpa using hi)] at q
        cases q
    · rw [List.getElem?_set_ne hj] at q ⊢
      exact t.at_ j e q
theorem wipe_set (σ : L2.St) (i : Nat) (x : Option V) : ∀ vs : List Nat, i ∈ vs → L2.wipe (σ.set i x) vs = L2.wipe σ vs
  | [], h => by cases h
  | v :: vs, h => by
    unfold L2.wipe
    by_cases hm : i ∈ vs
    · rw [wipe_set σ i x vs hm]
    · have e : i = v := by
        rcases List.mem_cons.mp h with e | h
        · exact e
        · exact absurd h hm
      subst e
      have go : ∀ ws : List Nat, i ∉ ws → L2.wipe (σ.set i x) ws = (L2.wipe σ ws).set i x := by
        intro ws
        induction ws with
        | nil => intro _; rfl
        | cons w ws ih =>
          intro hn
          unfold L2.wipe
          rw [ih fun z => hn (List.mem_cons_of_mem _ z), List.set_comm _ _ (fun z => hn (by rw [z]; exact List.mem_cons_self))]
      rw [go vs hm, List.set_set]
theorem wipe_twice (σ : L2.St) : ∀ vs ws : List Nat, (∀ v ∈ vs, v ∈ ws) → L2.wipe (L2.wipe σ vs) ws = L2.wipe σ ws
  | [], ws, _ => rfl
  | v :: vs, ws, h => by
    show L2.wipe ((L2.wipe σ vs).set v none) ws = _
    rw [wipe_set _ v none ws (h v List.mem_cons_self)]
    exact wipe_twice σ vs ws fun u hu => h u (List.mem_cons_of_mem _ hu)
theorem bind_all {K : PySem.W.Frag} {H : Hp} {R : Nat → Addr} {n : Nat} {Q : L2.St → Hp → Prop} : ∀ {is : List Nat} {ds : List D} {vs : List V} {τ : Sd} {σ : L2.St} {ws : List Nat}, R0s K H R n ds vs → SRel L K H R n τ σ → ds.length = is.length → (∀ i ∈ is, i ∈ ws) →
    (∀ σ', SRel L K H R n (setAll τ is ds) σ' → L2.wipe σ' ws = L2.wipe σ ws → Q σ' H) → gAll is vs σ H Q
  | [], ds, vs, τ, σ, ws, r, s, hl, _, h => by
    have e : ds = [] := List.eq_nil_of_length_eq_zero hl
    subst e
    simp only [R0s] at r
    exact ⟨r, h σ s rfl⟩
  | i :: is, [], vs, τ, σ, ws, r, s, hl, _, h => by cases hl
  | i :: is, d :: ds, vs, τ, σ, ws, r, s, hl, hm, h => by
    simp only [R0s] at r
    obtain ⟨v, us, rfl, r1, r2⟩ := r
    refine ⟨v, us, rfl, ?_⟩
    refine bind_all r2 (s.set r1) (by simpa using hl) (fun j hj => hm j (List.mem_cons_of_mem _ hj)) fun σ' s' hw => h σ' s' ?_
    rw [hw, wipe_set _ _ _ _ (hm i List.mem_cons_self)]
theorem bind_sim {K : PySem.W.Frag} {H : Hp} {R : Nat → Addr} {n : Nat} {Q : L2.St → Hp → Prop} {p : Pat} {d : D} {v : V} {τ : Sd} {σ : L2.St} {k : Sd → Prop} (r : R0 K H R n d v) (s : SRel L K H R n τ σ) (w : bindW p d τ k)
    (h : ∀ τ' σ', SRel L K H R n τ' σ' → L2.wipe σ' p.ix = L2.wipe σ p.ix → k τ' → Q σ' H) : gOf K p v σ H Q := by
  cases p with
  | nm i => exact h _ _ (s.set r) (wipe_set _ _ _ _ (by simp [Pat.ix])) w
  | tp is =>
    cases d with
    | tup ds =>
      obtain ⟨w1, w2⟩ : ds.length = is.length ∧ k (setAll τ is ds) := w
      simp only [R0] at r
      obtain ⟨a, vs, rfl, q, r⟩ := r
      refine ⟨a, vs, rfl, q, by rw [← R0s_len r]; exact w1, ?_⟩
      exact bind_all r s w1 (fun i hi => hi) fun σ' s' hw => h _ σ' s' hw w2
    | _ => exact w.elim

def isName : Expr → Option Str
  | .Name x _ => some x
  | _ => none
/-- a name that may be stored, at slot i -/
def chkN (N : List Str) (ss : Scope) (i : Nat) (x : Str) : Bool := decide (N[i]? = some x) && (decide (ss.names.lookup x = some .local) || decide (ss.names.lookup x = some .cell))
def chkE1 (N : List Str) (ss : Scope) (i : Nat) (e : Expr) : Bool := match isName e with | some x => chkN N ss i x | none => false
def chkNs (N : List Str) (ss : Scope) : List Nat → List Expr → Bool
  | [], [] => true
  | i :: is, e :: es => chkE1 N ss i e && chkNs N ss is es
  | _, _ => false
def chkP (N : List Str) (ss : Scope) : Pat → Expr → Bool
  | .nm i, e => chkE1 N ss i e
  | .tp is, .Tuple es _ _ => chkNs N ss is es
  | _, _ => false
theorem isName_ok {e : Expr} {x : Str} (h : isName e = some x) : ∃ p, e = .Name x p := by
  cases e <;> first | cases h | skip
  exact ⟨_, rfl⟩
section
variable {T : Tab} {cl : CallD} {N : List Str} {sc ss : Scope} {X : Cx}
theorem pg_nm (g : Good L T cl N sc ss X) {i : Nat} {x : Str} {p : Pos} (h : chkN N ss i x = true) : PG X (.Name x p) (gName i) := by
  unfold chkN at h
  simp only [Bool.and_eq_true, Bool.or_eq_true, decide_eq_true_eq] at h
  obtain ⟨a, b⟩ := g.st x h.2
  exact pg_name (by rw [g.hN]; exact g.nd) (by rw [g.hN]; exact h.1) a b
theorem chkE1_ok {i : Nat} {e : Expr} (h : chkE1 N ss i e = true) : ∃ x p, e = .Name x p ∧ chkN N ss i x = true := by
  unfold chkE1 at h
  split at h
  · rename_i x ex
    obtain ⟨p, rfl⟩ := isName_ok ex
    exact ⟨x, p, rfl, h⟩
  · cases h
theorem pg_all (g : Good L T cl N sc ss X) : ∀ {is : List Nat} {es : List Expr}, chkNs N ss is es = true → PGs X es (gAll is) ∧ (assignEach es X.env).length = is.length ∧ (assignEach es X.env).findIdx? (·.1) = none
  | [], [], _ => ⟨pgs_nil, rfl, rfl⟩
  | [], _ :: _, h => by cases h
  | _ :: _, [], h => by cases h
  | i :: is, e :: es, h => by
    unfold chkNs at h
    rw [Bool.and_eq_true] at h
    obtain ⟨h1, h2⟩ := h
    obtain ⟨x, p, rfl, h1⟩ := chkE1_ok h1
    obtain ⟨a, b, c⟩ := pg_all g h2
    refine ⟨pgs_cons (pg_nm g h1) a rfl, ?_, ?_⟩
    · show (assignEach es X.env).length + 1 = is.length + 1
      rw [b]
    · show List.findIdx? (·.1) ((false, _) :: assignEach es X.env) = none
      rw [List.findIdx?_cons]
      simp [c]
theorem pg_of (g : Good L T cl N sc ss X) {p : Pat} {e : Expr} (h : chkP N ss p e = true) : PG X e (gOf X.K p) := by
  cases p with
  | nm i =>
    obtain ⟨x, q, rfl, h1⟩ := chkE1_ok (show chkE1 N ss i e = true from h)
    exact pg_nm g h1
  | tp is =>
    cases e with
    | Tuple es k pos =>
      obtain ⟨a, b, c⟩ := pg_all g (show chkNs N ss is es = true from h)
      exact pg_tup g.calm a b c
    | _ => cases h
end
end Py

namespace Py
open PySem PySem.Spec PyProof.Rows L2
variable {L : Lnk}

/-! ### a comprehension -/
section
variable {K : PySem.W.Frag} {R R1 : Nat → Addr} {h h1 : Hd} {H H1 : Hp}
/-- a list of HandS's that is no place of ours is written -/
theorem Ext.side {p : Addr} {o : HO} {vs : List V} (E : Ext K R h H R1 h1 H1) (hn : H p = none) (hp : H1 p = some (.lst vs)) : Ext K R h H R1 h1 (upd H1 p o) where
  len := E.len
  agr := E.agr
  fresh := E.fresh
  frame := fun a ob e n => by rw [upd_ne (ne_of_none e hn)]; exact E.frame a ob e n
  stay := fun a ob e => by rw [upd_ne (ne_of_none e hn)]; exact E.stay a ob e
  tup := fun a ws r => (E.tup a ws r).imp (rd_wr hp (by intro z; cases z) fun ob z => by cases z) id
  frz := fun a ws r => (E.frz a ws r).imp (fun ⟨ob, r⟩ => ⟨ob, by rw [upd_ne (ne_of r hp (by intro z; cases z))]; exact r⟩) id
theorem side_r0s {p : Addr} {o : HO} {vs : List V} {n : Nat} (hp : H1 p = some (.lst vs)) {ds : List D} {us : List V} (r : R0s K H1 R1 n ds us) : R0s K (upd H1 p o) R1 n ds us :=
  R0s_mono (fun a ws r => r.imp (fun ⟨ob, r⟩ => ⟨ob, by rw [upd_ne (ne_of r hp (by intro z; cases z))]; exact r⟩) id) (fun a ws r => r.imp (rd_wr hp (by intro z; cases z) fun ob z => by cases z) id) (fun i hi => ⟨hi, rfl⟩) ds us r
theorem HRel.side {p : Addr} {o : HO} {vs : List V} (hr : HRel K H1 R1 h1) (hp : H1 p = some (.lst vs)) (ne : ∀ i, i < h1.length → R1 i ≠ p) : HRel K (upd H1 p o) R1 h1 := by
  refine ⟨hr.inj, fun i ob e => ?_⟩
  have hi : i < h1.length := (List.getElem?_eq_some_iff.mp e).1
  have x := hr.obj i ob e
  cases ob with
  | lst ds => obtain ⟨ws, a, b⟩ := x; exact ⟨ws, by rw [upd_ne (ne i hi)]; exact a, side_r0s hp b⟩
  | dct tk ks ws =>
    show dcRel K (upd H1 p o) R1 h1.length tk ks ws (upd H1 p o (R1 i))
    rw [upd_ne (ne i hi)]
    rcases x with ⟨t, kvs, a, b, c⟩ | ⟨t, kvs, a, b, c⟩
    · exact .inl ⟨t, kvs, a, b, side_r0s hp c⟩
    · exact .inr ⟨t, kvs, a, b, side_r0s hp c⟩
  | ins c fs => exact x.elim
end
theorem comp_sim {K : PySem.W.Frag} {it : TId} {p : Pat} {cond : TTd} {elt : TEd} (σ : L2.St) (H : Hp) (Q : VK) (w : lift L K (compE it p cond elt) σ H Q) :
    tLc (liftI L K it) (gOf K p) (liftT L.quiet K cond) (lift L.quiet K elt) p.ix σ H Q := by
  obtain ⟨R, τ, h, P, sr, hr, w, post⟩ := w
  refine ⟨R, τ, h, _, sr, hr, w, fun R1 h1 H1 wk J E1 hr1 w1 wlk => ?_⟩
  intro D hD
  have hDH : H D = none := E1.none_of hD
  -- the invariant
  refine ⟨fun i m H' => m = wk.xs.length - i ∧ i ≤ wk.xs.length ∧ ∃ R' h' acc av, Ext K R1 h1 H1 R' h' H' ∧ HRel K H' R' h' ∧ (∀ j, j < h'.length → R' j ≠ D) ∧ H' D = some (.lst av) ∧ R0s K H' R' h'.length acc av ∧
      compW wk.ok p cond elt (wipeD τ p.ix) (fun acc h2 => P (.tl acc) h2) (wk.xs.drop i) acc h', ⟨wk.xs.length, by simp, Nat.zero_le _, R1, h1, [], [], Ext.laid hD, hr1.laid hD, hr1.nep hD, upd_same, by simp only [R0s], w1⟩, ?_⟩
  rintro i m H2 ⟨rfl, hi, R2, h2, acc, av, E2, hr2, nD, eD, ra, cw⟩
  by_cases hlt : i < wk.xs.length
  · refine .inr ?_
    rw [List.drop_eq_getElem_cons hlt] at cw
    obtain ⟨ok, cw⟩ := cw
    obtain ⟨wgo, wstop, wyld⟩ := wlk R2 h2 H2 E2 hr2 ok
    refine ⟨wgo i hlt, _, fun H' q => ⟨wk.xs.length - (i + 1), by omega, q⟩, fun x H3 y => ?_⟩
    obtain ⟨d, ed, E3, hr3, rd⟩ := wyld i x H3 hlt y
    rw [List.getElem?_eq_getElem hlt] at ed
    cases ed
    have eD3 : H3 D = some (.lst av) := E3.frame _ _ eD nD
    have sw : SRel L.quiet K H3 R2 h2.length (wipeD τ p.ix) (L2.wipe σ p.ix) := E3.srel (E2.srel (E1.srel (sr.wipe p.ix).quiet))
    refine bind_sim rd sw cw fun τ' σ' s' hw cw' => ?_
    refine ⟨by rw [hw, wipe_twice _ _ _ fun v hv => hv], R2, τ', h2, _, s', hr3, cw', fun R4 h4 H4 b E4 hr4 cw4 => ?_⟩
    have nD4 := E4.ne eD3 nD
    have eD4 : H4 D = some (.lst av) := E4.frame _ _ eD3 nD
    have E14 := (E2.trans E3).trans E4
    cases b with
    | false =>
      rw [if_neg Bool.false_ne_true] at cw4
      refine iteF ?_
      exact ⟨rfl, hlt, R4, h4, acc, av, E14, hr4, nD4, eD4, E4.r0s (E3.r0s ra), cw4⟩
    | true =>
      rw [if_pos rfl] at cw4
      refine iteT ?_
      refine ⟨R4, τ', h4, _, E4.srel s', hr4, cw4, fun R5 h5 H5 y v E5 hr5 ry cw5 => ?_⟩
      obtain ⟨R6, h6, y', E6, hr6, ag, ry', cw6⟩ := mat_ok E5 hr5 ry cw5
      have eD5 : H5 D = some (.lst av) := E5.frame _ _ eD4 nD4
      have nD6 := E6.ne eD4 nD4
      obtain ⟨hz, cw6⟩ := cw6
      have ra6 : R0s K H5 R6 h6.length acc av := E6.r0s (E4.r0s (E3.r0s ra))
      refine ⟨av, eD5, by rw [← R0s_len ra6]; exact hz, rfl, hlt, R6, h6, acc ++ [y'], av ++ [v], (E14.trans E6).side hD eD5, hr6.side eD5 nD6, nD6, upd_same, side_r0s eD5 (R0s_append ra6 (R0s_one ry')), cw6⟩
  · have e : i = wk.xs.length := by omega
    subst e
    rw [List.drop_eq_nil_of_le (Nat.le_refl _)] at cw
    obtain ⟨ok, cw⟩ := cw
    obtain ⟨wgo, wstop, wyld⟩ := wlk R2 h2 H2 E2 hr2 ok
    exact .inl ⟨wstop _ (Nat.le_refl _), post R2 h2 H2 (.tl acc) (.ref D) (E1.trans E2) hr2 ⟨D, av, rfl, hDH, eD, ra, nD⟩ cw⟩
/-- a comprehension of two clauses -/
theorem comp2_sim {K : PySem.W.Frag} {it : TId} {p : Pat} {it2 : TId} {p2 : Pat} {elt : TEd} (σ : L2.St) (H : Hp) (Q : VK) (w : lift L K (comp2E it p it2 p2 elt) σ H Q) :
    tLc2 (liftI L K it) (gOf K p) tYes (liftI L.quiet K it2) (gOf K p2) tYes (lift L.quiet K elt) (p.ix ++ p2.ix) p2.ix σ H Q := by
  obtain ⟨R, τ, h, P, sr, hr, w, post⟩ := w
  refine ⟨R, τ, h, _, sr, hr, w, fun R1 h1 H1 wk J E1 hr1 w1 wlk => ?_⟩
  intro D hD
  obtain ⟨R2, h2, d2, E2, hr2, _, r2, rfl, rfl⟩ := mat_ok (d := .tl []) (v := .ref D) (P := fun d' h2 => d' = .loc h1.length ∧ h2 = h1 ++ [.lst []]) (.laid hD) (hr1.laid hD) ⟨D, [], rfl, hD, upd_same, by simp only [R0s], hr1.nep hD⟩ ⟨rfl, rfl⟩
  obtain ⟨la, eD⟩ := (show List.length h1 < List.length (h1 ++ [DO.lst []]) ∧ V.ref D = V.ref (R2 (List.length h1)) from r2)
  have eD : R2 h1.length = D := by cases eD; rfl
  have loc : ∀ {R' : Nat → Addr} {h' : Hd} {H' : Hp}, Ext K R2 (h1 ++ [.lst []]) (upd H1 D (.lst [])) R' h' H' → R0 K H' R' h'.length (.loc h1.length) (.ref D) := fun E => by
    have := E.r0 r2
    exact this
  refine ⟨fun i m H' => m = wk.xs.length - i ∧ i ≤ wk.xs.length ∧ ∃ R' h', Ext K R2 (h1 ++ [.lst []]) (upd H1 D (.lst [])) R' h' H' ∧ HRel K H' R' h' ∧
      comp2W wk.ok h1.length p it2 p2 elt (wipeD τ (p.ix ++ p2.ix)) P (wk.xs.drop i) h', ⟨wk.xs.length, by simp, Nat.zero_le _, R2, _, .refl, hr2, w1⟩, ?_⟩
  rintro i m H3 ⟨rfl, hi, R3, h3, E3, hr3, cw⟩
  by_cases hlt : i < wk.xs.length
  · refine .inr ?_
    rw [List.drop_eq_getElem_cons hlt] at cw
    obtain ⟨ok, cw⟩ := cw
    obtain ⟨wgo, wstop, wyld⟩ := wlk R3 h3 H3 (E2.trans E3) hr3 ok
    refine ⟨wgo i hlt, fun H' => i + 1 ≤ wk.xs.length ∧ ∃ R' h', Ext K R2 (h1 ++ [.lst []]) (upd H1 D (.lst [])) R' h' H' ∧ HRel K H' R' h' ∧
      comp2W wk.ok h1.length p it2 p2 elt (wipeD τ (p.ix ++ p2.ix)) P (wk.xs.drop (i + 1)) h', fun H' q => ⟨wk.xs.length - (i + 1), by omega, rfl, q⟩, fun x H4 y => ?_⟩
    obtain ⟨d, ed, E4, hr4, rd⟩ := wyld i x H4 hlt y
    rw [List.getElem?_eq_getElem hlt] at ed
    cases ed
    have sw : SRel L.quiet K H4 R3 h3.length (wipeD τ (p.ix ++ p2.ix)) (L2.wipe σ (p.ix ++ p2.ix)) := E4.srel (E3.srel (E2.srel (E1.srel (sr.wipe _).quiet)))
    refine bind_sim rd sw cw fun τ' σ' s' hw cw' => ?_
    refine ⟨?_, ?_⟩
    · have e1 := congrArg (fun z => L2.wipe z (p.ix ++ p2.ix)) hw
      rw [wipe_twice _ _ _ fun v hv => List.mem_append_left _ hv, wipe_twice _ _ _ fun v hv => List.mem_append_left _ hv, wipe_twice _ _ _ fun v hv => hv] at e1
      exact e1
    unfold tYes
    refine iteT ?_
    refine ⟨R3, τ', h3, _, s', hr4, cw', fun R5 h5 H5 wk2 J2 E5 hr5 cw5 wlk2 => ?_⟩
    refine ⟨fun j k H' => k = wk2.xs.length - j ∧ j ≤ wk2.xs.length ∧ ∃ R' h', Ext K R5 h5 H5 R' h' H' ∧ HRel K H' R' h' ∧
        in2W wk2.ok h1.length p2 elt (wipeD τ' p2.ix) (fun h2 => comp2W wk.ok h1.length p it2 p2 elt (wipeD τ (p.ix ++ p2.ix)) P (wk.xs.drop (i + 1)) h2) (wk2.xs.drop j) h',
      ⟨wk2.xs.length, by simp, Nat.zero_le _, R5, h5, .refl, hr5, cw5⟩, ?_⟩
    rintro j k H6 ⟨rfl, hj, R6, h6, E6, hr6, cw6⟩
    have E26 := ((E3.trans E4).trans E5).trans E6
    by_cases hlt2 : j < wk2.xs.length
    · refine .inr ?_
      rw [List.drop_eq_getElem_cons hlt2] at cw6
      obtain ⟨ok6, cw6⟩ := cw6
      obtain ⟨wgo2, wstop2, wyld2⟩ := wlk2 R6 h6 H6 E6 hr6 ok6
      refine ⟨wgo2 j hlt2, fun H' => j + 1 ≤ wk2.xs.length ∧ ∃ R' h', Ext K R5 h5 H5 R' h' H' ∧ HRel K H' R' h' ∧
        in2W wk2.ok h1.length p2 elt (wipeD τ' p2.ix) (fun h2 => comp2W wk.ok h1.length p it2 p2 elt (wipeD τ (p.ix ++ p2.ix)) P (wk.xs.drop (i + 1)) h2) (wk2.xs.drop (j + 1)) h', fun H' q => ⟨wk2.xs.length - (j + 1), by omega, rfl, q⟩, fun x7 H7 y7 => ?_⟩
      obtain ⟨d7, ed7, E7, hr7, rd7⟩ := wyld2 j x7 H7 hlt2 y7
      rw [List.getElem?_eq_getElem hlt2] at ed7
      cases ed7
      have sw2 : SRel L.quiet K H7 R6 h6.length (wipeD τ' p2.ix) (L2.wipe σ' p2.ix) := E7.srel (E6.srel (E5.srel (s'.wipe _)))
      refine bind_sim rd7 sw2 cw6 fun τ2 σ2 s2 hw2 cw7 => ?_
      refine ⟨by rw [hw2, wipe_twice _ _ _ fun v hv => hv], ?_⟩
      simp only [if_true]
      refine ⟨R6, τ2, h6, _, s2, hr7, cw7, fun R8 h8 H8 y8 v E8 hr8 ry cw8 => ?_⟩
      obtain ⟨R9, h9, y', E9, hr9, ag, ry', cw9⟩ := mat_ok E8 hr8 ry cw8
      have E29 := (E26.trans E7).trans E9
      obtain ⟨a, vs, u, ea, eu, q1, q2, q3⟩ := sim_append R9 h9 H8 H8 (.loc h1.length) y' (.ref D) v _ (fun _ H' => j + 1 ≤ wk2.xs.length ∧ ∃ R' h', Ext K R5 h5 H5 R' h' H' ∧ HRel K H' R' h' ∧
        in2W wk2.ok h1.length p2 elt (wipeD τ' p2.ix) (fun h2 => comp2W wk.ok h1.length p it2 p2 elt (wipeD τ (p.ix ++ p2.ix)) P (wk.xs.drop (i + 1)) h2) (wk2.xs.drop (j + 1)) h') hr9 (.of (loc E29)) ry' cw9
        fun R' h' H' d v E' hr' _ w' => ⟨hlt2, R', h', ((E6.trans E7).trans E9).trans E', hr', w'⟩
      cases ea
      cases eu
      exact ⟨vs, q1, q2, q3⟩
    · have e : j = wk2.xs.length := by omega
      subst e
      rw [List.drop_eq_nil_of_le (Nat.le_refl _)] at cw6
      obtain ⟨ok6, cw6⟩ := cw6
      obtain ⟨wgo2, wstop2, wyld2⟩ := wlk2 R6 h6 H6 E6 hr6 ok6
      exact .inl ⟨wstop2 _ (Nat.le_refl _), hlt, R6, h6, E26, hr6, cw6⟩
  · have e : i = wk.xs.length := by omega
    subst e
    rw [List.drop_eq_nil_of_le (Nat.le_refl _)] at cw
    obtain ⟨ok, cw⟩ := cw
    obtain ⟨wgo, wstop, wyld⟩ := wlk R3 h3 H3 (E2.trans E3) hr3 ok
    exact .inl ⟨wstop _ (Nat.le_refl _), post R3 h3 H3 (.loc h1.length) (.ref D) (E1.trans (E2.trans E3)) hr3 (.of (loc E3)) cw⟩
/-! ### [d[k] for k in d] -/
theorem valV_mem {kvs : List (Key × V)} {kv : Key × V} (h : kv ∈ kvs) : ∃ v, valV kvs kv.1 = some v := by
  have e := valV_any kv.1 kvs
  rw [List.any_eq_true.mpr ⟨kv, h, by simp⟩] at e
  exact Option.isSome_iff_exists.mp e.symm
theorem dvals_raw {σ : L2.St} {H : Hp} {Q : VK} {i k : Nat} {d : Addr} {kvs : List (Key × V)} (hik : i ≠ k) (hk : k < σ.length) (ev : σ[i]? = some (some (.ref d))) (hd : H d = some (.dK kvs)) (hl : kvs.length ≤ sizeLine)
    (q : ∀ p, H p = none → Q (.ref p) (upd H p (.lst (kvs.map fun kv => (valV kvs kv.1).getD .non)))) : tLockE (tLc (iKeys (tVar i)) (gName k) tYes (tOp rDGet (tVar i) (tVar k)) [k]) σ H Q := by
  refine ⟨d, .dK kvs, hd, trivial, fun od => ?_⟩
  refine ⟨.ref d, ev, d, od, rfl, .inl ⟨kvs, upd_same, ?_⟩⟩
  intro D hD
  have nd : D ≠ d := by
    intro e
    subst e
    rw [upd_same] at hD
    cases hD
  have hD0 : H D = none := by rw [upd_ne nd] at hD; exact hD
  refine ⟨fun j m H' => m = kvs.length - j ∧ j ≤ kvs.length ∧ H' = upd (upd H d (.frz od (.dK kvs))) D (.lst ((kvs.take j).map fun kv => (valV kvs kv.1).getD .non)), ⟨kvs.length, by simp, Nat.zero_le _, by simp⟩, ?_⟩
  rintro j m H' ⟨rfl, hj, rfl⟩
  have frz : ∀ o, upd (upd H d (.frz od (.dK kvs))) D o d = some (.frz od (.dK kvs)) := fun o => by rw [upd_ne (Ne.symm nd), upd_same]
  by_cases hlt : j < kvs.length
  · refine .inr ⟨⟨frz _, hlt⟩, fun H2 => H2 = upd (upd H d (.frz od (.dK kvs))) D (.lst ((kvs.take (j + 1)).map fun kv => (valV kvs kv.1).getD .non)), fun H2 e => ⟨_, by omega, rfl, hlt, e⟩, ?_⟩
    rintro x H2 ⟨rfl, kk, v, hkv, rfl⟩
    refine ⟨wipe_set _ _ _ _ (by simp) |>.trans (wipe_twice _ _ _ fun v hv => hv), ?_⟩
    unfold tYes
    simp only [if_true]
    obtain ⟨v', hv'⟩ := valV_mem (List.mem_of_getElem? hkv)
    have e1 : ((L2.wipe σ [k]).set k (some (kV kk)))[i]? = some (some (.ref d)) := by
      rw [List.getElem?_set_ne (Ne.symm hik)]
      show (σ.set k none)[i]? = _
      rw [List.getElem?_set_ne (Ne.symm hik)]
      exact ev
    have e2 : ((L2.wipe σ [k]).set k (some (kV kk)))[k]? = some (some (kV kk)) := List.getElem?_set_self (by rw [wipe_length]; exact hk)
    refine ⟨.ref d, e1, kV kk, e2, d, v', rfl, .inl ⟨kvs, kk, .inr ⟨od, frz _⟩, rfl, hv'.symm⟩, _, upd_same, ?_, ?_⟩
    · rw [List.length_map, List.length_take]
      omega
    · rw [upd_upd, List.take_add_one, hkv]
      simp [hv']
  · have e : j = kvs.length := by omega
    subst e
    refine .inl ⟨⟨frz _, Nat.le_refl _⟩, frz _, ?_⟩
    rw [List.take_length]
    have e : upd (upd (upd H d (.frz od (.dK kvs))) D (.lst (kvs.map fun kv => (valV kvs kv.1).getD .non))) d (.dK kvs) = upd H D (.lst (kvs.map fun kv => (valV kvs kv.1).getD .non)) := by
      funext a
      by_cases ha : a = d
      · subst ha
        rw [upd_same, upd_ne (Ne.symm nd), hd]
      · rw [upd_ne ha]
        by_cases hb : a = D
        · subst hb
          rw [upd_same, upd_same]
        · rw [upd_ne hb, upd_ne hb, upd_ne ha]
    rw [e]
    exact q D hD0
theorem dVals_rel {K : PySem.W.Frag} {H : Hp} {R : Nat → Addr} {n : Nat} {kvs : List (Key × V)} {vs : List D} (r : R0s K H R n vs (kvs.map (·.2))) : ∀ l : List (Key × V), (∀ kv ∈ l, kv ∈ kvs) →
    R0s K H R n (l.map fun kv => ((dkey (keyD kv.1)).bind (dGet (kvs.map fun p => keyD p.1) vs)).getD .non) (l.map fun kv => (valV kvs kv.1).getD .non)
  | [], _ => by simp [R0s]
  | kv :: l, h => by
    have ih := dVals_rel r l fun x hx => h x (List.mem_cons_of_mem _ hx)
    obtain ⟨v, hv⟩ := valV_mem (h kv List.mem_cons_self)
    have g := dGet_rel (k := kv.1) r
    simp only [List.map_cons, R0s, dkey_keyD, Option.bind_some]
    refine ⟨_, _, rfl, ?_, by simpa only [dkey_keyD, Option.bind_some] using ih⟩
    split at g
    · rename_i d ed
      obtain ⟨w, ew, rw'⟩ := g
      rw [hv] at ew
      cases ew
      rw [ed, hv]
      exact rw'
    · rw [hv] at g
      cases g
theorem dvals_sim {K : PySem.W.Frag} {i k : Nat} (hik : i ≠ k) (σ : L2.St) (H : Hp) (Q : VK) (w : lift L K (dvalsE i k) σ H Q) : tLockE (tLc (iKeys (tVar i)) (gName k) tYes (tOp rDGet (tVar i) (tVar k)) [k]) σ H Q := by
  obtain ⟨R, τ, h, P, sr, hr, w, post⟩ := w
  unfold dvalsE at w
  split at w
  · rename_i a ea
    split at w
    · rename_i ks vs eh
      obtain ⟨⟨hl, hk⟩, w⟩ := w
      obtain ⟨v, ev, rv⟩ := sr.at_ i _ ea
      obtain ⟨a', kvs, rfl, hH, rfl, r⟩ := dct_rel (G := H) hr (.of rv) (x := .loc a) (ks := ks) (vs := vs) (by simp only [dctOf, eh])
      refine dvals_raw hik (by rw [← sr.len]; exact hk) ev hH (by simpa using hl) fun p hp => ?_
      refine post.tl hr hp ?_ w
      have := dVals_rel r kvs fun _ h => h
      unfold dVals
      rw [List.map_map]
      exact this
    · exact w.elim
  · exact w.elim
end Py

namespace Py
open PySem PySem.Spec PyProof.Rows L2
variable {L : Lnk}

/-! ### what the syntax of an operation is -/
def glC (sc : Scope) (x : Str) : Bool := decide (sc.names.lookup x = some .globalImplicit)
def binA (op : Operator) : Expr → Option (List Expr)
  | .BinOp l o r _ => if o = op then some [l, r] else none
  | _ => none
def cmpA (op : CmpOp) : Expr → Option (List Expr)
  | .Compare l [o] [r] _ => if o = op ∧ noSet r = true then some [l, r] else none
  | _ => none
def call1 (T : Tab) (sc : Scope) (x : Str) : Expr → Option (List Expr)
  | .Call (.Name y _) [a] [] _ => if y = x ∧ x ∈ T.bn ∧ glC sc x = true ∧ noStar a = true then some [a] else none
  | _ => none
def callSet (T : Tab) (sc : Scope) (x : Str) : Expr → Option (List Expr)
  | .Call (.Name y _) [.Call (.Name z _) [a] [] _] [] _ => if y = x ∧ z = ("set" : Str) ∧ x ∈ T.bn ∧ ("set" : Str) ∈ T.bn ∧ glC sc x = true ∧ glC sc ("set" : Str) = true ∧ noStar a = true then some [a] else none
  | _ => none
def callRng (T : Tab) (sc : Scope) (x : Str) : Expr → Option (List Expr)
  | .Call (.Name y _) [.Call (.Name z _) [a] [] _] [] _ => if y = x ∧ z = ("range" : Str) ∧ x ∈ T.bn ∧ ("range" : Str) ∈ T.bn ∧ glC sc x = true ∧ glC sc ("range" : Str) = true ∧ noStar a = true then some [a] else none
  | _ => none
def call2 (T : Tab) (sc : Scope) (x : Str) : Expr → Option (List Expr)
  | .Call (.Name y _) [a, b] [] _ => if y = x ∧ x ∈ T.bn ∧ glC sc x = true ∧ noStar a = true ∧ noStar b = true then some [a, b] else none
  | _ => none
def callX2 (T : Tab) (sc : Scope) (id : String) : Expr → Option (List Expr)
  | .Call (.Name y _) [a, b] [] _ => if T.ex.lookup y = some id ∧ glC sc y = true ∧ noStar a = true ∧ noStar b = true ∧ (y == ("__debug__" : Str)) = false then some [a, b] else none
  | _ => none
def meth0 (m : Str) : Expr → Option (List Expr)
  | .Call (.Attribute o n apos) [] [] pos => if n = m ∧ noSuper o = true ∧ (apos.endLine == pos.line) = true then some [o] else none
  | _ => none
def meth1 (m : Str) : Expr → Option (List Expr)
  | .Call (.Attribute o n apos) [a] [] pos => if n = m ∧ noSuper o = true ∧ (apos.endLine == pos.line) = true ∧ noStar a = true then some [o, a] else none
  | _ => none
def tyName : String → Str
  | "int" => "int" | "bool" => "bool" | "str" => "str" | "tuple" => "tuple" | "list" => "list" | "dict" => "dict" | _ => "?"
def instA (T : Tab) (sc : Scope) (t : String) : Expr → Option (List Expr)
  | .Call (.Name y _) [a, .Name c _] [] _ => if y = ("isinstance" : Str) ∧ ("isinstance" : Str) ∈ T.bn ∧ glC sc ("isinstance" : Str) = true ∧ noStar a = true ∧ t ∈ instTypes ∧ c = tyName t ∧ c ∈ T.bn ∧ glC sc c = true then some [a] else none
  | _ => none
def primArgs (T : Tab) (sc : Scope) : Prim → Expr → Option (List Expr)
  | .add, e => binA .Add e
  | .sub, e => binA .Sub e
  | .mul, e => binA .Mult e
  | .fdiv, e => binA .FloorDiv e
  | .mod, e => binA .Mod e
  | .pow, e => binA .Pow e
  | .neg, .UnaryOp .USub a _ => some [a]
  | .eq, e => cmpA .Eq e
  | .ne, e => cmpA .NotEq e
  | .lt, e => cmpA .Lt e
  | .le, e => cmpA .LtE e
  | .gt, e => cmpA .Gt e
  | .ge, e => cmpA .GtE e
  | .is_, e => cmpA .Is e
  | .isnot, e => cmpA .IsNot e
  | .in_, e => cmpA .In e
  | .notin, e => cmpA .NotIn e
  | .idx, .Subscript o i _ => if noSlice i = true then some [o, i] else none
  | .slLo, .Subscript o (.Slice (some a) none none _) _ => some [o, a]
  | .slHi, .Subscript o (.Slice none (some a) none _) _ => some [o, a]
  | .rev, .Subscript o (.Slice none none (some (.UnaryOp .USub (.Constant (.int 1) _ _) _)) _) _ => some [o]
  | .len, e => call1 T sc "len" e
  | .abs, e => call1 T sc "abs" e
  | .int1, e => call1 T sc "int" e
  | .gcd, e => callX2 T sc "math.gcd" e
  | .list, e => call1 T sc "list" e
  | .tuple, e => call1 T sc "tuple" e
  | .bits, e => meth0 "bit_length" e
  | .inst t, e => instA T sc t e
  | .pop, e => meth0 "pop" e
  | .reverse, e => meth0 "reverse" e
  | .any, e => call1 T sc "any" e
  | .all, e => call1 T sc "all" e
  | .sum, e => call1 T sc "sum" e
  | .maxL, e => call1 T sc "max" e
  | .minL, e => call1 T sc "min" e
  | .sorted, e => call1 T sc "sorted" e
  | .max2, e => call2 T sc "max" e
  | .min2, e => call2 T sc "min" e
  | .sortedSet, e => callSet T sc "sorted" e
  | .lenSet, e => callSet T sc "len" e
  | .dnew, .Dict [] [] _ => some []
  | .dget, .Subscript o i _ => if noSlice i = true then some [o, i] else none
  | .din, e => cmpA .In e
  | .dnotin, e => cmpA .NotIn e
  | .dlen, e => call1 T sc "len" e
  | .lrng, e => callRng T sc "list" e
  | .sin, e => cmpA .In e
  | .snotin, e => cmpA .NotIn e
  | .smul, e => binA .Mult e
  | .strS, e => call1 T sc "str" e
  | .repr, e => call1 T sc "repr" e
  | .inD, e => cmpA .In e
  | .notinD, e => cmpA .NotIn e
  | _, _ => none

def hd2 : List Expr → Option (Expr × List Expr)
  | o :: r => some (o, r)
  | [] => none
def methArgs (T : Tab) (sc : Scope) : MP → Expr → Option (Expr × List Expr)
  | .append, e => (meth1 "append" e).bind hd2
  | .popAt, e => (meth1 "pop" e).bind hd2
theorem binA_inv {op : Operator} {e : Expr} {es : List Expr} (h : binA op e = some es) : ∃ l r pos, e = .BinOp l op r pos ∧ es = [l, r] := by
  unfold binA at h
  split at h
  · split at h
    · rename_i q; subst q; cases h; exact ⟨_, _, _, rfl, rfl⟩
    · cases h
  · cases h
theorem cmpA_inv {op : CmpOp} {e : Expr} {es : List Expr} (h : cmpA op e = some es) : ∃ l r pos, e = .Compare l [op] [r] pos ∧ es = [l, r] ∧ noSet r = true := by
  unfold cmpA at h
  split at h
  · split at h
    · rename_i q; obtain ⟨q, z⟩ := q; subst q; cases h; exact ⟨_, _, _, rfl, rfl, z⟩
    · cases h
  · cases h
theorem call1_inv {T : Tab} {sc : Scope} {x : Str} {e : Expr} {es : List Expr} (h : call1 T sc x e = some es) : ∃ a p pos, e = .Call (.Name x p) [a] [] pos ∧ es = [a] ∧ x ∈ T.bn ∧ sc.names.lookup x = some .globalImplicit ∧ noStar a = true := by
  unfold call1 at h
  split at h
  · split at h
    · rename_i q; obtain ⟨q, z1, z2, z3⟩ := q; subst q; cases h; exact ⟨_, _, _, rfl, rfl, z1, of_decide_eq_true z2, z3⟩
    · cases h
  · cases h
theorem callSet_inv {T : Tab} {sc : Scope} {x : Str} {e : Expr} {es : List Expr} (h : callSet T sc x e = some es) : ∃ a p p2 q pos, e = .Call (.Name x p) [.Call (.Name "set" p2) [a] [] q] [] pos ∧ es = [a] ∧ x ∈ T.bn ∧ ("set" : Str) ∈ T.bn ∧
    sc.names.lookup x = some .globalImplicit ∧ sc.names.lookup ("set" : Str) = some .globalImplicit ∧ noStar a = true := by
  unfold callSet at h
  split at h
  · split at h
    · rename_i q; obtain ⟨q1, q2, z1, z2, z3, z4, z5⟩ := q; subst q1 q2; cases h; exact ⟨_, _, _, _, _, rfl, rfl, z1, z2, of_decide_eq_true z3, of_decide_eq_true z4, z5⟩
    · cases h
  · cases h
theorem callRng_inv {T : Tab} {sc : Scope} {x : Str} {e : Expr} {es : List Expr} (h : callRng T sc x e = some es) : ∃ a p p2 q pos, e = .Call (.Name x p) [.Call (.Name "range" p2) [a] [] q] [] pos ∧ es = [a] ∧ x ∈ T.bn ∧ ("range" : Str) ∈ T.bn ∧
    sc.names.lookup x = some .globalImplicit ∧ sc.names.lookup ("range" : Str) = some .globalImplicit ∧ noStar a = true := by
  unfold callRng at h
  split at h
  · split at h
    · rename_i q; obtain ⟨q1, q2, z1, z2, z3, z4, z5⟩ := q; subst q1 q2; cases h; exact ⟨_, _, _, _, _, rfl, rfl, z1, z2, of_decide_eq_true z3, of_decide_eq_true z4, z5⟩
    · cases h
  · cases h
theorem call2_inv {T : Tab} {sc : Scope} {x : Str} {e : Expr} {es : List Expr} (h : call2 T sc x e = some es) : ∃ a b p pos, e = .Call (.Name x p) [a, b] [] pos ∧ es = [a, b] ∧ x ∈ T.bn ∧ sc.names.lookup x = some .globalImplicit ∧ noStar a = true ∧ noStar b = true := by
  unfold call2 at h
  split at h
  · split at h
    · rename_i q; obtain ⟨rfl, z0, z2, z3, z4⟩ := q; cases h; exact ⟨_, _, _, _, rfl, rfl, z0, of_decide_eq_true z2, z3, z4⟩
    · cases h
  · cases h
theorem callX2_inv {T : Tab} {sc : Scope} {id : String} {e : Expr} {es : List Expr} (h : callX2 T sc id e = some es) : ∃ x a b p pos, e = .Call (.Name x p) [a, b] [] pos ∧ es = [a, b] ∧ T.ex.lookup x = some id ∧ sc.names.lookup x = some .globalImplicit ∧ noStar a = true ∧ noStar b = true ∧ (x == ("__debug__" : Str)) = false := by
  unfold callX2 at h
  split at h
  · split at h
    · rename_i q; obtain ⟨z0, z2, z3, z4, z5⟩ := q; cases h; exact ⟨_, _, _, _, _, rfl, rfl, z0, of_decide_eq_true z2, z3, z4, z5⟩
    · cases h
  · cases h
theorem meth0_inv {m : Str} {e : Expr} {es : List Expr} (h : meth0 m e = some es) : ∃ o apos pos, e = .Call (.Attribute o m apos) [] [] pos ∧ es = [o] ∧ noSuper o = true ∧ (apos.endLine == pos.line) = true := by
  unfold meth0 at h
  split at h
  · split at h
    · rename_i q; obtain ⟨q, z1, z2⟩ := q; subst q; cases h; exact ⟨_, _, _, rfl, rfl, z1, z2⟩
    · cases h
  · cases h
theorem meth1_inv {m : Str} {e : Expr} {es : List Expr} (h : meth1 m e = some es) : ∃ o a apos pos, e = .Call (.Attribute o m apos) [a] [] pos ∧ es = [o, a] ∧ noSuper o = true ∧ (apos.endLine == pos.line) = true ∧ noStar a = true := by
  unfold meth1 at h
  split at h
  · split at h
    · rename_i q; obtain ⟨q, z1, z2, z3⟩ := q; subst q; cases h; exact ⟨_, _, _, _, rfl, rfl, z1, z2, z3⟩
    · cases h
  · cases h
theorem instA_inv {T : Tab} {sc : Scope} {t : String} {e : Expr} {es : List Expr} (h : instA T sc t e = some es) : ∃ a p q pos, e = .Call (.Name "isinstance" p) [a, .Name (tyName t) q] [] pos ∧ es = [a] ∧ ("isinstance" : Str) ∈ T.bn ∧ sc.names.lookup ("isinstance" : Str) = some .globalImplicit ∧ noStar a = true ∧
    t ∈ instTypes ∧ tyName t ∈ T.bn ∧ sc.names.lookup (tyName t) = some .globalImplicit := by
  unfold instA at h
  split at h
  · split at h
    · rename_i q; obtain ⟨q, z1, z2, z3, z4, z5, z6, z7⟩ := q; subst q z5; cases h; exact ⟨_, _, _, _, rfl, rfl, z1, of_decide_eq_true z2, z3, z4, z6, of_decide_eq_true z7⟩
    · cases h
  · cases h

/-! ### the arguments' readings -/
def ArgsOk (L : Lnk) (cl : CallD) (gl : List (Str × D)) (X : Cx) : CE → List Expr → Prop
  | .anil, [] => True
  | .acons a r, e :: es => PE X e (lift L X.K (wp cl gl a).e) ∧ ArgsOk L cl gl X r es
  | _, _ => False
section
variable {T : Tab} {cl : CallD} {gl : List (Str × D)} {N : List Str} {sc ss : Scope} {X : Cx}
theorem ArgsOk.nil {as : CE} (h : ArgsOk L cl gl X as []) : as = .anil := by
  cases as <;> first | rfl | exact False.elim h
theorem ArgsOk.cons {as : CE} {e : Expr} {es : List Expr} (h : ArgsOk L cl gl X as (e :: es)) : ∃ a r, as = .acons a r ∧ PE X e (lift L X.K (wp cl gl a).e) ∧ ArgsOk L cl gl X r es := by
  cases as <;> first | exact ⟨_, _, rfl, h.1, h.2⟩ | exact False.elim h
theorem ArgsOk.one {as : CE} {e : Expr} (h : ArgsOk L cl gl X as [e]) : ∃ a, as = .acons a .anil ∧ PE X e (lift L X.K (wp cl gl a).e) := by
  obtain ⟨a, r, rfl, h1, h2⟩ := h.cons
  cases h2.nil
  exact ⟨a, rfl, h1⟩
theorem ArgsOk.two {as : CE} {e f : Expr} (h : ArgsOk L cl gl X as [e, f]) : ∃ a b, as = .acons a (.acons b .anil) ∧ PE X e (lift L X.K (wp cl gl a).e) ∧ PE X f (lift L X.K (wp cl gl b).e) := by
  obtain ⟨a, r, rfl, h1, h2⟩ := h.cons
  obtain ⟨b, rfl, h3⟩ := h2.one
  exact ⟨a, b, rfl, h1, h3⟩
theorem ArgsOk.three {as : CE} {e f k : Expr} (h : ArgsOk L cl gl X as [e, f, k]) : ∃ a b c, as = .acons a (.acons b (.acons c .anil)) ∧ PE X e (lift L X.K (wp cl gl a).e) ∧ PE X f (lift L X.K (wp cl gl b).e) ∧ PE X k (lift L X.K (wp cl gl c).e) := by
  obtain ⟨a, r, rfl, h1, h2⟩ := h.cons
  obtain ⟨b, c, rfl, h3, h4⟩ := h2.two
  exact ⟨a, b, c, rfl, h1, h3, h4⟩

/-- arguments that each get a place -/
def liftA (L : Lnk) (K : PySem.W.Frag) (t : TAd) : TA := fun σ H Q => ∃ R τ h P, SRel L K H R h.length τ σ ∧ HRel K H R h ∧ t τ h P ∧
  ∀ R' h' H' ds vs, Ext K R h H R' h' H' → HRel K H' R' h' → R0s K H' R' h'.length ds vs → P ds h' → Q vs H'
theorem args_ok : ∀ {as : CE} {es : List Expr}, es.all noStar = true → ArgsOk L cl gl X as es → PA X es (liftA L X.K ((wp cl gl as).a true))
  | as, [], _, h => by
    cases h.nil
    refine PA.imp pa_nil fun σ H Q ⟨R, τ, h, P, sr, hr, w, post⟩ => ?_
    exact post R h H [] [] .refl hr (by simp only [R0s]) w
  | as, e :: es, hs, h => by
    rw [List.all_cons, Bool.and_eq_true] at hs
    obtain ⟨a, r, rfl, h1, h2⟩ := h.cons
    refine PA.imp (pa_cons h1 (args_ok hs.2 h2) (star_cons hs.1)) fun σ H Q ⟨R, τ, h, P, sr, hr, w, post⟩ => ?_
    refine ⟨R, τ, h, _, sr, hr, w, fun R1 h1 H1 d v E1 hr1 rd w1 => ?_⟩
    obtain ⟨R2, h2, d', E2, hr2, ag, rd', w2⟩ := mat_ok E1 hr1 rd w1
    refine ⟨R2, τ, h2, _, E2.srel sr, hr2, w2, fun R3 h3 H3 ds vs E3 hr3 rs w3 => ?_⟩
    refine post R3 h3 H3 (d' :: ds) (v :: vs) (E2.trans E3) hr3 ?_ w3
    simp only [R0s]
    exact ⟨v, vs, rfl, E3.r0 rd', rs⟩

/-! ### operations -/
theorem s_bin {op : Operator} {r : R2} {p : D → D → Hd → PD → Prop} {ta tb : TEd} {l r' : Expr} {pos : Pos} (ho : OpR X (binaryOp op) r) (sm : Sim2 X.K r p) (ha : PE X l (lift L X.K ta)) (hb : PE X r' (lift L X.K tb)) :
    PE X (.BinOp l op r' pos) (lift L X.K fun τ h Q => ta τ h fun x h1 => tb τ h1 fun y h2 => p x y h2 Q) := PE.imp (pe_op ho ha hb) fun σ H Q w => lift_bin sm σ H Q w
theorem s_cmp {op : CmpOp} {r : R2} {p : D → D → Hd → PD → Prop} {ta tb : TEd} {l r' : Expr} {pos : Pos} (ho : OpR X (compareOp op) r) (sm : Sim2 X.K r p) (hn : noSet r' = true) (ha : PE X l (lift L X.K ta)) (hb : PE X r' (lift L X.K tb)) :
    PE X (.Compare l [op] [r'] pos) (lift L X.K fun τ h Q => ta τ h fun x h1 => tb τ h1 fun y h2 => p x y h2 Q) := PE.imp (pe_cmpR ho ha hb (noSet_mark hn)) fun σ H Q w => lift_bin sm σ H Q w
theorem s_call1 {x : Str} {id : String} {r : List V → Hp → VK → Prop} {p : D → Hd → PD → Prop} {ta : TEd} {a : Expr} {q pos : Pos} (g : Good L T cl N sc ss X) (hc : CallR X (.builtin id) r) (sm : CSim1 X.K r p) (hv : bootBuiltins x = some (.builtin id))
    (hx : x ∈ T.bn) (hg : sc.names.lookup x = some .globalImplicit) (hs : noStar a = true) (ha : PE X a (lift L X.K ta)) (hn : x ≠ "__name__" := by decide) (hd : (x == ("__debug__" : Str)) = false := by decide) :
    PE X (.Call (.Name x q) [a] [] pos) (lift L X.K fun τ h Q => ta τ h fun x h1 => p x h1 Q) :=
  PE.imp (pe_callB hc (by unfold Gl Env.kindOf; rw [g.hsc]; exact hg) (g.bn x hx) hv (pa_cons ha pa_nil (star_cons hs)) hn hd (star_cons hs) rfl) fun σ H Q w => lift_un (r := fun x H Q => r [x] H Q) sm σ H Q w
theorem s_call2 {x : Str} {id : String} {r : List V → Hp → VK → Prop} {p : D → D → Hd → PD → Prop} {ta tb : TEd} {a b : Expr} {q pos : Pos} (g : Good L T cl N sc ss X) (hc : CallR X (.builtin id) r) (sm : CSim2 X.K r p) (hv : bootBuiltins x = some (.builtin id))
    (hx : x ∈ T.bn) (hg : sc.names.lookup x = some .globalImplicit) (hs : noStar a = true) (hs2 : noStar b = true) (ha : PE X a (lift L X.K ta)) (hb : PE X b (lift L X.K tb)) (hn : x ≠ "__name__" := by decide) (hd : (x == ("__debug__" : Str)) = false := by decide) :
    PE X (.Call (.Name x q) [a, b] [] pos) (lift L X.K fun τ h Q => ta τ h fun x h1 => tb τ h1 fun y h2 => p x y h2 Q) :=
  PE.imp (pe_callB hc (by unfold Gl Env.kindOf; rw [g.hsc]; exact hg) (g.bn x hx) hv (pa_cons ha (pa_cons hb pa_nil (star_cons hs2)) (star_cons hs)) hn hd (star_cons hs) (star_any (by simp [hs2]))) fun σ H Q w => lift_bin (r := fun x y H Q => r [x, y] H Q) sm σ H Q w
theorem s_ty1 {x : Str} {id : String} {r : List V → Hp → VK → Prop} {p : D → Hd → PD → Prop} {ta : TEd} {a : Expr} {q pos : Pos} (g : Good L T cl N sc ss X) (hc : CallR X (.type id) r) (sm : CSim1 X.K r p) (hv : bootBuiltins x = some (.type id))
    (hx : x ∈ T.bn) (hg : sc.names.lookup x = some .globalImplicit) (hs : noStar a = true) (ha : PE X a (lift L X.K ta)) (hn : x ≠ "__name__" := by decide) (hd : (x == ("__debug__" : Str)) = false := by decide) :
    PE X (.Call (.Name x q) [a] [] pos) (lift L X.K fun τ h Q => ta τ h fun x h1 => p x h1 Q) :=
  PE.imp (pe_callTy hc (by unfold Gl Env.kindOf; rw [g.hsc]; exact hg) (g.bn x hx) hv (pa_cons ha pa_nil (star_cons hs)) hn hd (star_cons hs) rfl) fun σ H Q w => lift_un (r := fun x H Q => r [x] H Q) sm σ H Q w
theorem s_callX2 {x : Str} {id : String} {r : List V → Hp → VK → Prop} {p : D → D → Hd → PD → Prop} {ta tb : TEd} {a b : Expr} {q pos : Pos} (g : Good L T cl N sc ss X) (hc : CallR X (.builtin id) r) (sm : CSim2 X.K r p)
    (hx : T.ex.lookup x = some id) (hg : sc.names.lookup x = some .globalImplicit) (hs : noStar a = true) (hs2 : noStar b = true) (hd : (x == ("__debug__" : Str)) = false) (ha : PE X a (lift L X.K ta)) (hb : PE X b (lift L X.K tb)) :
    PE X (.Call (.Name x q) [a, b] [] pos) (lift L X.K fun τ h Q => ta τ h fun x h1 => tb τ h1 fun y h2 => p x y h2 Q) :=
  PE.imp (pe_callBfun hc (by unfold Gl Env.kindOf; rw [g.hsc]; exact hg) (g.ex x id hx) (pa_cons ha (pa_cons hb pa_nil (star_cons hs2)) (star_cons hs)) hd (star_cons hs) (star_any (by simp [hs2]))) fun σ H Q w => lift_bin (r := fun x y H Q => r [x, y] H Q) sm σ H Q w
/-- the types of lists -/
theorem ty_list {K : PySem.W.Frag} {H : Hp} {a : Addr} {vs : List V} (h : H a = some (.lst vs)) : tyV K "list" (.ref a) H := .inl ⟨rfl, vs, .of h⟩
def SimM0 (K : PySem.W.Frag) (T : String) (r : V → List V → Hp → VK → Prop) (p : D → Hd → PD → Prop) : Prop := Sim1 K (fun x H Q => tyV K T x H ∧ r x [] H Q) p
theorem s_meth0 {T0 id : String} {m : Str} {r : V → List V → Hp → VK → Prop} {p : D → Hd → PD → Prop} {ta : TEd} {o : Expr} {apos pos : Pos} (pa : PlainAttrs T0) (slot : Slot T0 m id) (hty : typeOf (.builtin id) = pure (.type "method_descriptor")) (hm : MtR X id r)
    (sm : SimM0 X.K T0 r p) (hs : noSuper o = true) (hl : (apos.endLine == pos.line) = true) (ha : PE X o (lift L X.K ta)) : PE X (.Call (.Attribute o m apos) [] [] pos) (lift L X.K fun τ h Q => ta τ h fun x h1 => p x h1 Q) :=
  PE.imp (pe_bm0 pa slot hty hm ha (noSuper_ok hs) hl) fun σ H Q w => lift_un (r := fun x H Q => tyV X.K T0 x H ∧ r x [] H Q) sm σ H Q w
end
end Py

namespace Py
open PySem PySem.Spec PyProof.Rows L2
variable {L : Lnk}
section
variable {T : Tab} {cl : CallD} {gl : List (Str × D)} {N : List Str} {sc ss : Scope} {X : Cx}

theorem sim_popM {K : PySem.W.Frag} : SimM0 K "list" rPop popW := by
  intro R h H G x v P Q hr rx w p
  refine ⟨?_, sim_pop R h H G x v P Q hr rx w p⟩
  unfold popW at w
  split at w
  · obtain ⟨hi, rfl⟩ := rx.locE
    split at w
    · rename_i xs e
      obtain ⟨_, vs, hw, r⟩ := hr.lst e
      exact ty_list hw
    · exact w.elim
  · exact w.elim
theorem sim_reverseM {K : PySem.W.Frag} : SimM0 K "list" rReverse reverseW := by
  intro R h H G x v P Q hr rx w p
  refine ⟨?_, sim_reverse R h H G x v P Q hr rx w p⟩
  unfold reverseW at w
  split at w
  · obtain ⟨hi, rfl⟩ := rx.locE
    split at w
    · rename_i xs e
      obtain ⟨_, vs, hw, r⟩ := hr.lst e
      exact ty_list hw
    · exact w.elim
  · exact w.elim
theorem s_append {ta : TEd} {as : CE} {o a : Expr} {apos pos : Pos} (hs : noSuper o = true) (hl : (apos.endLine == pos.line) = true) (hn : noStar a = true) (ho : PE X o (lift L X.K ta)) (ha : ArgsOk L cl gl X as [a]) :
    PE X (.Call (.Attribute o "append" apos) [a] [] pos) (lift L X.K (methE .append ta (wp cl gl as).a)) := by
  have hns : [a].all noStar = true := by simp [hn]
  refine PE.imp (pe_bm PySem.F.plainAttrs_list PySem.F.slot_list_append PySem.F.type_list_append mt_append ho (args_ok hns ha) (noSuper_ok hs) ?_ hl (star_cons hn) rfl) fun σ H Q w => ?_
  · rw [star_all hns]
    rfl
  · obtain ⟨R, τ, h, P, sr, hr, w, post⟩ := w
    refine ⟨R, τ, h, _, sr, hr, w, fun R1 h1 H1 x v E1 hr1 rx w1 => ?_⟩
    obtain ⟨ty, w1⟩ := w1
    obtain ⟨xs, ex⟩ := Option.isSome_iff_exists.mp ty
    obtain ⟨b, vs, rfl, hb, rb⟩ := rx.mlst hr1 ex
    refine ⟨ty_list hb, R1, τ, h1, _, E1.srel sr, hr1, w1, fun R2 h2 H2 ds us E2 hr2 rs w2 => ?_⟩
    match ds, w2 with
    | [y], w2 =>
      simp only [R0s] at rs
      obtain ⟨u, us', rfl, ry, rfl⟩ := rs
      exact sim_append R2 h2 H2 H x y (.ref b) u P Q hr2 (E2.rt rx) ry w2 ((post.on E1).on E2)
    | [], w2 => exact w2.elim
    | _ :: _ :: _, w2 => exact w2.elim

theorem s_popAt {ta : TEd} {as : CE} {o a : Expr} {apos pos : Pos} (hs : noSuper o = true) (hl : (apos.endLine == pos.line) = true) (hn : noStar a = true) (ho : PE X o (lift L X.K ta)) (ha : ArgsOk L cl gl X as [a]) :
    PE X (.Call (.Attribute o "pop" apos) [a] [] pos) (lift L X.K (methE .popAt ta (wp cl gl as).a)) := by
  have hns : [a].all noStar = true := by simp [hn]
  refine PE.imp (pe_bm PySem.F.plainAttrs_list PySem.F.slot_list_pop PySem.F.type_list_pop mt_popAt ho (args_ok hns ha) (noSuper_ok hs) ?_ hl (star_cons hn) rfl) fun σ H Q w => ?_
  · rw [star_all hns]
    rfl
  · obtain ⟨R, τ, h, P, sr, hr, w, post⟩ := w
    refine ⟨R, τ, h, _, sr, hr, w, fun R1 h1 H1 x v E1 hr1 rx w1 => ?_⟩
    obtain ⟨ty, w1⟩ := w1
    obtain ⟨xs, ex⟩ := Option.isSome_iff_exists.mp ty
    obtain ⟨b, vs, rfl, hb, rb⟩ := rx.mlst hr1 ex
    refine ⟨ty_list hb, R1, τ, h1, _, E1.srel sr, hr1, w1, fun R2 h2 H2 ds us E2 hr2 rs w2 => ?_⟩
    match ds, w2 with
    | [y], w2 =>
      simp only [R0s] at rs
      obtain ⟨u, us', rfl, ry, rfl⟩ := rs
      exact sim_popAt R2 h2 H2 H x y (.ref b) u P Q hr2 (E2.rt rx) ry w2 ((post.on E1).on E2)
    | [], w2 => exact w2.elim
    | _ :: _ :: _, w2 => exact w2.elim

theorem s_sl2 {ta tb tc : TEd} {o a b : Expr} {p pos : Pos} (ho : PE X o (lift L X.K ta)) (ha : PE X a (lift L X.K tb)) (hb : PE X b (lift L X.K tc)) : PE X (.Subscript o (.Slice (some a) (some b) none p) pos) (lift L X.K (sl2E ta tb tc)) := by
  refine PE.imp (pe_slice ok_sl ho (po_some ha) (po_some hb)) fun σ H Q w => ?_
  obtain ⟨R, τ, h, P, sr, hr, w, post⟩ := w
  refine ⟨R, τ, h, _, sr, hr, w, fun R1 h1 H1 x v E1 hr1 rx w1 => ⟨R1, τ, h1, _, E1.srel sr, hr1, w1, fun R2 h2 H2 y u E2 hr2 ry w2 => ?_⟩⟩
  cases y with
  | int i =>
    cases ry.intE
    refine ⟨i, rfl, R2, τ, h2, _, E2.srel (E1.srel sr), hr2, w2, fun R3 h3 H3 z u' E3 hr3 rz w3 => ?_⟩
    cases z with
    | int j =>
      cases rz.intE
      exact ⟨j, rfl, sim_sl R3 h3 H3 H x v P Q hr3 (E3.rt (E2.rt rx)) w3 (((post.on E1).on E2).on E3)⟩
    | _ => exact w3.elim
  | _ => exact w2.elim
/-! ### an operation's reading -/
theorem tyName_boot : ∀ t ∈ instTypes, bootBuiltins (tyName t) = some (.type t) ∧ tyName t ≠ "__name__" ∧ (tyName t == ("__debug__" : Str)) = false := by decide +kernel
theorem prim_ok (g : Good L T cl N sc ss X) {p : Prim} {e : Expr} {es : List Expr} {as : CE} (hp : primArgs T sc p e = some es) (ha : ArgsOk L cl gl X as es) : PE X e (lift L X.K (wp cl gl (.prim p as)).e) := by
  have bin : ∀ {op : Operator} {r : R2}, binA op e = some es → OpR X (binaryOp op) r → Sim2 X.K r (fun x y h Q => wpP p [x, y] h Q) → PE X e (lift L X.K (wp cl gl (.prim p as)).e) := by
    intro op r h1 h2 h3
    obtain ⟨l, r', pos, rfl, rfl⟩ := binA_inv h1
    obtain ⟨a1, b1, rfl, ha1, hb1⟩ := ha.two
    exact s_bin (ta := (wp cl gl a1).e) (tb := (wp cl gl b1).e) h2 h3 ha1 hb1
  have cmp : ∀ {op : CmpOp} {r : R2}, cmpA op e = some es → OpR X (compareOp op) r → Sim2 X.K r (fun x y h Q => wpP p [x, y] h Q) → PE X e (lift L X.K (wp cl gl (.prim p as)).e) := by
    intro op r h1 h2 h3
    obtain ⟨l, r', pos, rfl, rfl, hn⟩ := cmpA_inv h1
    obtain ⟨a1, b1, rfl, ha1, hb1⟩ := ha.two
    exact s_cmp (ta := (wp cl gl a1).e) (tb := (wp cl gl b1).e) h2 h3 hn ha1 hb1
  have fun1 : ∀ {x : Str} {id : String} {r : List V → Hp → VK → Prop}, call1 T sc x e = some es → CallR X (.builtin id) r → CSim1 X.K r (fun x h Q => wpP p [x] h Q) → bootBuiltins x = some (.builtin id) → x ≠ "__name__" → (x == ("__debug__" : Str)) = false →
      PE X e (lift L X.K (wp cl gl (.prim p as)).e) := by
    intro x id r h1 h2 h3 h4 h5 h6
    obtain ⟨a, q, pos, rfl, rfl, z1, z2, z3⟩ := call1_inv h1
    obtain ⟨a1, rfl, ha1⟩ := ha.one
    exact s_call1 (ta := (wp cl gl a1).e) (p := fun x h Q => wpP p [x] h Q) g h2 h3 h4 z1 z2 z3 ha1 h5 h6
  have ty1 : ∀ {x : Str} {id : String} {r : List V → Hp → VK → Prop}, call1 T sc x e = some es → CallR X (.type id) r → CSim1 X.K r (fun x h Q => wpP p [x] h Q) → bootBuiltins x = some (.type id) → x ≠ "__name__" → (x == ("__debug__" : Str)) = false →
      PE X e (lift L X.K (wp cl gl (.prim p as)).e) := by
    intro x id r h1 h2 h3 h4 h5 h6
    obtain ⟨a, q, pos, rfl, rfl, z1, z2, z3⟩ := call1_inv h1
    obtain ⟨a1, rfl, ha1⟩ := ha.one
    exact s_ty1 (ta := (wp cl gl a1).e) (p := fun x h Q => wpP p [x] h Q) g h2 h3 h4 z1 z2 z3 ha1 h5 h6
  cases p with
  | add => exact bin hp ok_add sim_add
  | sub => exact bin hp op_sub sim_sub
  | mul => exact bin hp ok_mul sim_mul
  | fdiv => exact bin hp ok_fdiv sim_fdiv
  | mod => exact bin hp op_modN sim_mod
  | pow => exact bin hp op_pow sim_pow
  | neg =>
    unfold primArgs at hp
    split at hp <;> first | contradiction | skip
    cases hp
    obtain ⟨a1, rfl, ha1⟩ := ha.one
    exact PE.imp (pe_un un_neg ha1) fun σ H Q w => lift_un sim_neg σ H Q w
  | eq => exact cmp hp (op_eq.or (op_eqD g.hu)) sim_eq
  | ne => exact cmp hp (op_ne.or (op_neD g.hu)) sim_ne
  | lt => exact cmp hp op_lt sim_ord
  | le => exact cmp hp op_le sim_ord
  | gt => exact cmp hp op_gt sim_ord
  | ge => exact cmp hp op_ge sim_ord
  | is_ => exact cmp hp ok_is sim_is
  | isnot => exact cmp hp ok_isnot sim_isnot
  | in_ => exact cmp hp op_in_seq sim_in
  | notin => exact cmp hp op_notIn_seq sim_notin
  | idx =>
    unfold primArgs at hp
    split at hp <;> first | contradiction | skip
    split at hp
    · rename_i hs
      cases hp
      obtain ⟨a1, b1, rfl, ha1, hb1⟩ := ha.two
      exact PE.imp (pe_ix ix_seq ha1 hb1 (noSlice_plain hs)) fun σ H Q w => lift_bin (p := idxW) sim_idx σ H Q w
    · cases hp
  | slLo =>
    unfold primArgs at hp
    split at hp <;> first | contradiction | skip
    cases hp
    obtain ⟨a1, b1, rfl, ha1, hb1⟩ := ha.two
    exact PE.imp (pe_slice ok_sl ha1 (po_some hb1) po_none) fun σ H Q w => lift_bin (r := fun x y H Q => ∃ i, y = .int i ∧ rSlD X.K x (some i) none H Q) (p := fun x y h Q => wpP .slLo [x, y] h Q) (by
      intro R h H G G' x y v u P Q hr rx ry w p
      have w : (match partW y with | some i => slW x (some i) none h P | none => False) := w
      cases y with
      | int i => cases ry.intE; exact ⟨i, rfl, sim_sl R h H G x v P Q hr rx w p⟩
      | _ => exact w.elim) σ H Q w
  | slHi =>
    unfold primArgs at hp
    split at hp <;> first | contradiction | skip
    cases hp
    obtain ⟨a1, b1, rfl, ha1, hb1⟩ := ha.two
    exact PE.imp (pe_slice ok_sl ha1 po_none (po_some hb1)) fun σ H Q w => lift_bin (r := fun x y H Q => ∃ i, y = .int i ∧ rSlD X.K x none (some i) H Q) (p := fun x y h Q => wpP .slHi [x, y] h Q) (by
      intro R h H G G' x y v u P Q hr rx ry w p
      have w : (match partW y with | some i => slW x none (some i) h P | none => False) := w
      cases y with
      | int i => cases ry.intE; exact ⟨i, rfl, sim_sl R h H G x v P Q hr rx w p⟩
      | _ => exact w.elim) σ H Q w
  | rev =>
    unfold primArgs at hp
    split at hp <;> first | contradiction | skip
    cases hp
    obtain ⟨a1, rfl, ha1⟩ := ha.one
    exact PE.imp (pe_back ha1) fun σ H Q w => lift_un (p := revW) sim_rev σ H Q w
  | len => exact fun1 hp call_len sim_len (by decide +kernel) (by decide) (by decide)
  | abs => exact fun1 hp call_abs sim_abs (by decide +kernel) (by decide) (by decide)
  | int1 => exact ty1 hp call_int1 sim_int (by decide +kernel) (by decide) (by decide)
  | gcd =>
    obtain ⟨x, a, b, q, pos, rfl, rfl, z1, z2, z3, z4, z5⟩ := callX2_inv hp
    obtain ⟨a1, b1, rfl, ha1, hb1⟩ := ha.two
    exact s_callX2 (ta := (wp cl gl a1).e) (tb := (wp cl gl b1).e) (p := gcdW) g cr_gcd sim_gcd z1 z2 z3 z4 z5 ha1 hb1
  | any => exact fun1 hp (cr_any g.calm) sim_any (by decide +kernel) (by decide) (by decide)
  | all => exact fun1 hp (cr_all g.calm) sim_all (by decide +kernel) (by decide) (by decide)
  | sum => exact fun1 hp (cr_sum g.calm) sim_sum (by decide +kernel) (by decide) (by decide)
  | maxL => exact fun1 hp (cr_max g.calm) sim_maxL (by decide +kernel) (by decide) (by decide)
  | minL => exact fun1 hp (cr_min g.calm) sim_minL (by decide +kernel) (by decide) (by decide)
  | sorted => exact fun1 hp (cr_sortedI.or cr_sortT) sim_sorted (by decide +kernel) (by decide) (by decide)
  | sortedSet =>
    obtain ⟨a, p1, p2, q, pos, rfl, rfl, z1, z2, z3, z4, z5⟩ := callSet_inv hp
    obtain ⟨a1, rfl, ha1⟩ := ha.one
    exact PE.imp (pe_srtSetA g.calm (by unfold Gl Env.kindOf; rw [g.hsc]; exact z3) (g.bn _ z1) (by unfold Gl Env.kindOf; rw [g.hsc]; exact z4) (g.bn _ z2) ha1 (star_cons z5)) fun σ H Q w => lift_un (p := sortedSetW) sim_sortedSet σ H Q w
  | lenSet =>
    obtain ⟨a, p1, p2, q, pos, rfl, rfl, z1, z2, z3, z4, z5⟩ := callSet_inv hp
    obtain ⟨a1, rfl, ha1⟩ := ha.one
    exact PE.imp (pe_lnSet g.calm (by unfold Gl Env.kindOf; rw [g.hsc]; exact z3) (g.bn _ z1) (by unfold Gl Env.kindOf; rw [g.hsc]; exact z4) (g.bn _ z2) ha1 (star_cons z5)) fun σ H Q w => lift_un (p := lenSetW) sim_lenSet σ H Q w
  | dnew =>
    unfold primArgs at hp
    split at hp <;> first | contradiction | skip
    cases hp
    cases ha.nil
    exact PE.imp pe_dnewK fun σ H Q w => lift_dnew σ H Q w
  | dget =>
    unfold primArgs at hp
    split at hp <;> first | contradiction | skip
    split at hp
    · rename_i hs
      cases hp
      obtain ⟨a1, b1, rfl, ha1, hb1⟩ := ha.two
      exact PE.imp (pe_ix (ix_dict (by have := g.hu; omega)) ha1 hb1 (noSlice_plain hs)) fun σ H Q w => lift_bin (p := dgetW) sim_dget σ H Q w
    · cases hp
  | din => exact cmp hp (or_din (by have := g.hu; omega)) sim_din
  | dnotin => exact cmp hp (or_dnotin (by have := g.hu; omega)) sim_dnotin
  | inD => exact cmp hp (op_inD g.hu) sim_inD
  | notinD => exact cmp hp (op_notInD g.hu) sim_notinD
  | sin => exact cmp hp op_in_sign sim_sin
  | snotin => exact cmp hp op_notin_sign sim_snotin
  | smul => exact bin hp op_smul sim_smul
  | strS => exact ty1 hp SkE.call_str_str sim_strS (by decide +kernel) (by decide) (by decide)
  | repr => exact fun1 hp (call_reprD g.hu g.gd) sim_repr (by decide +kernel) (by decide) (by decide)
  | dlen => exact fun1 hp call_lenD sim_dlen (by decide +kernel) (by decide) (by decide)
  | lrng =>
    obtain ⟨a, p1, p2, q, pos, rfl, rfl, z1, z2, z3, z4, z5⟩ := callRng_inv hp
    obtain ⟨a1, rfl, ha1⟩ := ha.one
    exact PE.imp (pe_listRg g.calm (by unfold Gl Env.kindOf; rw [g.hsc]; exact z3) (g.bn _ z1) (prg_1 (by unfold Gl Env.kindOf; rw [g.hsc]; exact z4) (g.bn _ z2) ha1 (star_cons z5))) fun σ H Q w => sim_lrng (ta := (wp cl gl a1).e) σ H Q w
  | max2 =>
    obtain ⟨a, b, q, pos, rfl, rfl, z1, z2, z3, z4⟩ := call2_inv hp
    obtain ⟨a1, b1, rfl, ha1, hb1⟩ := ha.two
    exact s_call2 (ta := (wp cl gl a1).e) (tb := (wp cl gl b1).e) (p := max2W) g (call_max2 g.calm) sim_max2 (by decide +kernel) z1 z2 z3 z4 ha1 hb1
  | min2 =>
    obtain ⟨a, b, q, pos, rfl, rfl, z1, z2, z3, z4⟩ := call2_inv hp
    obtain ⟨a1, b1, rfl, ha1, hb1⟩ := ha.two
    exact s_call2 (ta := (wp cl gl a1).e) (tb := (wp cl gl b1).e) (p := min2W) g (call_min2 g.calm) sim_min2 (by decide +kernel) z1 z2 z3 z4 ha1 hb1
  | list => exact ty1 hp call_list_of sim_list (by decide +kernel) (by decide) (by decide)
  | tuple => exact ty1 hp call_tuple_of sim_tuple (by decide +kernel) (by decide) (by decide)
  | bits =>
    obtain ⟨o, apos, pos, rfl, rfl, z1, z2⟩ := meth0_inv (show meth0 "bit_length" e = some es from hp)
    obtain ⟨a1, rfl, ha1⟩ := ha.one
    exact PE.imp (pe_bits ha1 (noSuper_ok z1) z2) fun σ H Q w => lift_un sim_bits σ H Q w
  | inst t =>
    obtain ⟨a, q, q2, pos, rfl, rfl, z1, z2, z3, z4, z5, z6⟩ := instA_inv (show instA T sc t e = some es from hp)
    obtain ⟨a1, rfl, ha1⟩ := ha.one
    obtain ⟨b1, b2, b3⟩ := tyName_boot t z4
    exact PE.imp (pe_callB call_isi (by unfold Gl Env.kindOf; rw [g.hsc]; exact z2) (g.bn _ z1) (by decide +kernel) (pa_cons ha1 (pa_cons (pe_bltn (v := .ty t) (by unfold Gl Env.kindOf; rw [g.hsc]; exact z6) (g.bn _ z5) b1 rfl b2 b3) pa_nil rfl) (star_cons z3)) (by decide) (by decide) (star_cons z3) rfl)
      fun σ H Q w => lift_un (r := fun x H Q => rIsi X.K [x, .ty t] H Q) (p := instW t) (sim_inst z4) σ H Q w
  | pop =>
    obtain ⟨o, apos, pos, rfl, rfl, z1, z2⟩ := meth0_inv (show meth0 "pop" e = some es from hp)
    obtain ⟨a1, rfl, ha1⟩ := ha.one
    exact s_meth0 (ta := (wp cl gl a1).e) (p := popW) PySem.F.plainAttrs_list PySem.F.slot_list_pop PySem.F.type_list_pop mt_pop sim_popM z1 z2 ha1
  | reverse =>
    obtain ⟨o, apos, pos, rfl, rfl, z1, z2⟩ := meth0_inv (show meth0 "reverse" e = some es from hp)
    obtain ⟨a1, rfl, ha1⟩ := ha.one
    exact s_meth0 (ta := (wp cl gl a1).e) (p := reverseW) PySem.F.plainAttrs_list PySem.F.slot_list_reverse PySem.F.type_list_reverse mt_reverse sim_reverseM z1 z2 ha1
end
end Py

namespace Py
open PySem PySem.Spec PyProof.Rows L2
variable {L : Lnk}
section
variable {T : Tab} {cl : CallD} {N : List Str} {sc ss : Scope} {X : Cx}
/-! ### tests -/
theorem R0s_empty {K : PySem.W.Frag} {H : Hp} {R : Nat → Addr} {n : Nat} : ∀ {xs : List D} {vs : List V}, R0s K H R n xs vs → xs.isEmpty = vs.isEmpty
  | [], vs, r => by simp only [R0s] at r; subst r; rfl
  | x :: xs, vs, r => by simp only [R0s] at r; obtain ⟨v, us, rfl, _⟩ := r; rfl
theorem t_of_e {e : Expr} {te : TEd} (h : PE X e (lift L X.K te)) (hp : plainTest e = true) : PT X e (liftT L X.K (tstOf te)) := by
  refine PT.imp (pt_truth h (plainTest_ok hp)) fun σ H Q ⟨R, τ, h, P, sr, hr, w, post⟩ => ?_
  refine ⟨R, τ, h, _, sr, hr, w, fun R1 h1 H1 d v E1 hr1 rd w1 => ?_⟩
  have w1 : (match truth h1 d with | some k => P k h1 | none => False) := w1
  split at w1
  · rename_i k ek
    refine ⟨k, ?_, post R1 h1 H1 k E1 hr1 w1⟩
    unfold truth at ek
    split at ek
    · cases rd.nonE; cases ek; rfl
    · cases rd.blE; cases ek; rfl
    · cases rd.intE; cases ek; rfl
    · obtain ⟨a, vs, rfl, q, r⟩ := rd.tup
      cases ek
      refine .inr (.inl ⟨vs, q, ?_⟩)
      rw [R0s_empty r]
    · cases ek
    · split at ek
      · rename_i xs ex
        cases ek
        obtain ⟨a, vs, rfl, q, r⟩ := rd.lst hr1 ex
        refine .inl ⟨vs, q, ?_⟩
        rw [R0s_empty r]
      · cases ek
  · exact w1.elim
theorem s_cmpT {op : CmpOp} {r : R2} {q : D → D → Hd → (Bool → Hd → Prop) → Prop} {ta tb : TEd} {l r' : Expr} {pos : Pos} (ho : OpR X (compareOp op) r) (sm : Sim2 X.K r (fun x y h Q => q x y h (bo Q))) (hn : noSet r' = true) (ha : PE X l (lift L X.K ta)) (hb : PE X r' (lift L X.K tb)) :
    PT X (.Compare l [op] [r'] pos) (liftT L X.K (tstOf fun τ h Q => ta τ h fun x h1 => tb τ h1 fun y h2 => q x y h2 (bo Q))) := by
  refine PT.imp (pt_cmpR ho ha hb (noSet_mark hn)) fun σ H Q ⟨R, τ, h, P, sr, hr, w, post⟩ => ?_
  refine lift_bin sm σ H _ ⟨R, τ, h, (fun d h' => match d with | .bl k => P k h' | _ => False), sr, hr, w, fun R1 h1 H1 d v E1 hr1 rd w1 => ?_⟩
  cases d with
  | bl k => cases rd.blE; exact ⟨k, rfl, post R1 h1 H1 k E1 hr1 w1⟩
  | _ => exact w1.elim
/-- a < b < c -/
def ordOp : Prim → Option (CmpOp × (Int → Int → Bool))
  | .lt => some (.Lt, fun i j => decide (i < j))
  | .le => some (.LtE, fun i j => decide (i ≤ j))
  | .gt => some (.Gt, fun i j => decide (j < i))
  | .ge => some (.GtE, fun i j => decide (j ≤ i))
  | _ => none
theorem ordOp_ok {p : Prim} {op : CmpOp} {f : Int → Int → Bool} (h : ordOp p = some (op, f)) : OpR X (compareOp op) (rI0 fun i j => .bl (f i j)) ∧ (∀ x y h Q, wpP p [x, y] h Q = ordW f x y h (bo Q)) ∧ op ≠ .In ∧ op ≠ .NotIn := by
  cases p <;> first | (cases h; done) | skip
  · cases h; exact ⟨op_lt, fun _ _ _ _ => rfl, by decide, by decide⟩
  · cases h; exact ⟨op_le, fun _ _ _ _ => rfl, by decide, by decide⟩
  · cases h; exact ⟨op_gt, fun _ _ _ _ => rfl, by decide, by decide⟩
  · cases h; exact ⟨op_ge, fun _ _ _ _ => rfl, by decide, by decide⟩
theorem lastMarks2 {o1 o2 : CmpOp} {b c : Expr} (h1 : o2 ≠ .In) (h2 : o2 ≠ .NotIn) : lastMarks [o1, o2] [b, c] = false := by
  show behindInMarks o2 c = false
  exact nobehind c h1 h2
theorem chain_sim {K : PySem.W.Frag} {p q : Prim} {f k : Int → Int → Bool} {ta tb tc : TEd} (h1 : ∀ x y h Q, wpP p [x, y] h Q = ordW f x y h (bo Q)) (h2 : ∀ x y h Q, wpP q [x, y] h Q = ordW k x y h (bo Q))
    (σ : L2.St) (H : Hp) (Q : VK) (w : lift L K (chainE p q ta tb tc) σ H Q) : tChain (rI0 fun i j => .bl (f i j)) (rI0 fun i j => .bl (k i j)) (lift L K ta) (lift L K tb) (lift L K tc) σ H Q := by
  obtain ⟨R, τ, h, P, sr, hr, w, post⟩ := w
  refine ⟨R, τ, h, _, sr, hr, w, fun R1 h1' H1 x v E1 hr1 rx w1 => ⟨R1, τ, h1', _, E1.srel sr, hr1, w1, fun R2 h2' H2 y u E2 hr2 ry w2 => ?_⟩⟩
  have w2 := w2
  rw [h1] at w2
  unfold ordW at w2
  split at w2
  · cases rx.intE; cases ry.intE
    refine ⟨_, _, rfl, rfl, _, rfl, ?_⟩
    obtain ⟨c, ec, w2⟩ := w2
    cases ec
    split
    · rename_i hc
      rw [if_pos hc] at w2
      refine ⟨R2, τ, h2', _, E2.srel (E1.srel sr), hr2, w2, fun R3 h3 H3 z u' E3 hr3 rz w3 => ?_⟩
      have w3 := w3
      rw [h2] at w3
      unfold ordW at w3
      split at w3
      · rename_i e1 e2
        cases e1
        cases rz.intE
        exact ⟨_, _, rfl, rfl, (((post.on E1).on E2).on E3).bl hr3 w3⟩
      · exact w3.elim
    · rename_i hc
      rw [if_neg hc] at w2
      exact ((post.on E1).on E2).bl hr2 w2
  · exact w2.elim
end
end Py

namespace Py
open PySem PySem.Spec PyProof.Rows L2

def visC (sc : Scope) (x : Str) : Bool := (decide (sc.names.lookup x = some .local) || decide (sc.names.lookup x = some .cell) || decide (sc.names.lookup x = some .free)) && !(x == ("__debug__" : Str)) && !(x == ("__classdict__" : Str))
def cstC : D → Const → Bool
  | .non, .none => true
  | .bl b, .bool c => b == c
  | .int i, .int j => decide (i = j)
  | .str x, .str y => decide (x = y)
  | _, _ => false
def isCmp : Prim → Bool
  | .eq => true | .ne => true | .lt => true | .le => true | .gt => true | .ge => true | .is_ => true | .isnot => true | .in_ => true | .notin => true | .din => true | .dnotin => true | .sin => true | .snotin => true | .inD => true | .notinD => true | _ => false
/-- the keys of a display -/
def keysC : List Key → List (Option Expr) → Bool
  | [], [] => true
  | k :: ks, some (.Constant c _ _) :: es => cstC (keyD k) c && keysC ks es
  | _, _ => false
def ownOf (N : List Str) (p : Pat) : List (Str × Nat) := p.ix.map fun i => (N.getD i "", i)
/-- [x[y] for y in x] -/
def dvC : Expr → Option (Str × Str × Scope)
  | .ListComp (.Subscript (.Name x1 _) (.Name k1 _) _) [⟨.Name k2 _, .Name x2 _, [], kk⟩] scope _ => if x1 = x2 ∧ k1 = k2 ∧ kk = 0 then some (x1, k1, scope) else none
  | _ => none
theorem dvC_inv {e : Expr} {x y : Str} {scope : Scope} (h : dvC e = some (x, y, scope)) : ∃ p1 p2 p3 p4 p5 pos, e = .ListComp (.Subscript (.Name x p1) (.Name y p2) p3) [⟨.Name y p4, .Name x p5, [], 0⟩] scope pos := by
  unfold dvC at h
  split at h
  · split at h
    · rename_i z
      obtain ⟨rfl, rfl, rfl⟩ := z
      cases h
      exact ⟨_, _, _, _, _, _, rfl⟩
    · cases h
  · cases h
mutual
/-- is e the syntax of c (m: as a test)? -/
def chk (T : Tab) (N : List Str) : CE → Bool → Scope → Expr → Bool
  | .var i, _, sc, .Name x _ => decide (N[i]? = some x) && visC sc x
  | .cst d, _, _, .Constant c _ _ => cstC d c
  | .glob i, _, sc, .Name x _ => glC sc x && !(x == ("__debug__" : Str)) && decide ((T.gl[i]?).map (·.1) = some x)
  | .tup as, _, sc, .Tuple es _ _ => chkA T N as sc es
  | .lst as, _, sc, .List es _ => chkA T N as sc es
  | .disp ks as, m, sc, .Dict keys values _ => !m && keysC ks keys && decide ks.Nodup && decide (ks ≠ []) && decide (ks.length ≤ 15) && decide (keys.length = values.length) && chkA T N as sc values
  | .prim p as, m, sc, e => (match primArgs T sc p e with | some es => chkA T N as sc es | none => false) && (!m || plainTest e || isCmp p)
  | .meth k o as, _, sc, e => (match methArgs T sc k e with | some (r, es) => chk T N o false sc r && chkA T N as sc es | none => false)
  | .call f as, _, sc, .Call (.Name x _) es [] _ => decide (T.fn[f]? = some x) && glC sc x && !(x == ("__debug__" : Str)) && chkA T N as sc es
  | .ife t a b, m, sc, .IfExp t' a' b' _ => !m && chk T N t true sc t' && chk T N a false sc a' && chk T N b false sc b'
  | .and_ a b, m, sc, .BoolOp .And (x :: y :: rest) pos => chk T N a m sc x && (match rest with | [] => chk T N b m sc y | z :: r => chk T N b m sc (.BoolOp .And (y :: z :: r) pos))
  | .or_ a b, m, sc, .BoolOp .Or (x :: y :: rest) pos => chk T N a m sc x && (match rest with | [] => chk T N b m sc y | z :: r => chk T N b m sc (.BoolOp .Or (y :: z :: r) pos))
  | .not_ a, m, sc, .UnaryOp .Not x _ => chk T N a m sc x
  | .chain p q a b c, _, sc, .Compare x [o1, o2] [y, z] _ => (match ordOp p, ordOp q with | some (p1, _), some (q1, _) => decide (p1 = o1) && decide (q1 = o2) | _, _ => false) && chk T N a false sc x && chk T N b false sc y && chk T N c false sc z
  | .sl2 a b c, _, sc, .Subscript x (.Slice (some y) (some z) none _) _ => chk T N a false sc x && chk T N b false sc y && chk T N c false sc z
  | .r1 a, _, sc, .Call (.Name x _) [y] [] _ => decide (x = "range") && decide (("range" : Str) ∈ T.bn) && glC sc "range" && noStar y && chk T N a false sc y
  | .r2 a b, _, sc, .Call (.Name x _) [y, z] [] _ => decide (x = "range") && decide (("range" : Str) ∈ T.bn) && glC sc "range" && noStar y && noStar z && chk T N a false sc y && chk T N b false sc z
  | .comp p it cd c elt, _, sc, .ListComp e' [⟨tg, iter, ifs, k⟩] scope _ => decide (k = 0) && blkC N sc scope (ownOf N p) && noSet iter && chk T N it false sc iter && chkP N scope p tg && chk T N elt false (relS scope sc) e' &&
      (match cd, ifs with | none, [] => true | some _, [i] => chk T N c true (relS scope sc) i | _, _ => false)
  | .comp2 p it p2 it2 elt, _, sc, .ListComp e' [⟨tg, iter, [], k⟩, ⟨tg1, iter1, [], k1⟩] scope _ => decide (k = 0) && decide (k1 = 0) && blkC N sc scope (ownOf N (.tp (p.ix ++ p2.ix))) && noSet iter && noSet iter1 && chk T N it false sc iter && chkP N scope p tg &&
      chk T N it2 false (relS scope sc) iter1 && chkP N scope p2 tg1 && chk T N elt false (relS scope sc) e'
  | .dvals i k, m, sc, e => !m && (match dvC e with
      | some (x, y, scope) => decide (i ≠ k) && blkC N sc scope (ownOf N (.nm k)) && decide (N[i]? = some x) && visC sc x && visC (relS scope sc) x && visC (relS scope sc) y && chkN N scope k y
      | none => false)
  | _, _, _, _ => false
def chkA (T : Tab) (N : List Str) : CE → Scope → List Expr → Bool
  | .anil, _, [] => true
  | .acons a r, sc, e :: es => noStar e && chk T N a false sc e && chkA T N r sc es
  | _, _, _ => false
end
end Py

namespace Py
open PySem PySem.Spec PyProof.Rows L2
variable {L : Lnk}

def isBoolE : Expr → Bool
  | .BoolOp _ _ _ => true
  | _ => false
structure Snd (T : Tab) (cl : CallD) (N : List Str) (c : CE) : Prop where
  e : ∀ {L : Lnk} {m : Bool} {sc ss : Scope} {X : Cx} {e : Expr}, Good L T cl N sc ss X → chk T N c m sc e = true → PE X e (lift L X.K (wp cl T.gl c).e)
  t : ∀ {L : Lnk} {sc ss : Scope} {X : Cx} {e : Expr}, Good L T cl N sc ss X → chk T N c true sc e = true → PT X e (liftT L X.K (wp cl T.gl c).t) ∧ (isBoolE e = true → PW X e (liftT L X.K (wp cl T.gl c).t))
  i : ∀ {L : Lnk} {m : Bool} {sc ss : Scope} {X : Cx} {e tg : Expr}, Good L T cl N sc ss X → chk T N c m sc e = true → PI X tg e (liftI L X.K (wp cl T.gl c).i)
  a : ∀ {L : Lnk} {sc ss : Scope} {X : Cx} {es : List Expr}, Good L T cl N sc ss X → chkA T N c sc es = true → ArgsOk L cl T.gl X c es ∧ es.all noStar = true
theorem PI.imp {X : Cx} {tg e : Expr} {t u : TI} (p : PI X tg e t) (h : ∀ σ H Q, u σ H Q → t σ H Q) : PI X tg e u := ⟨fun pins s σ H Q I w => p.run pins s σ H Q I (h _ _ _ w)⟩
theorem i_of_e {X : Cx} {tg e : Expr} {te : TEd} (h : PE X e (lift L X.K te)) : PI X tg e (liftI L X.K (itOf te)) := PI.imp (pi_any h) fun σ H Q w => lift_it σ H Q w
theorem pe_no {X : Cx} {e : Expr} : PE X e (lift L X.K noE) := ⟨fun _ _ _ _ _ _ ⟨_, _, _, _, _, _, w, _⟩ => w.elim⟩
section
variable {T : Tab} {cl : CallD} {N : List Str}
/-- a plain piece of syntax: its value alone -/
theorem Snd.plain {c : CE} {te : TEd} (hw : wp cl T.gl c = mkR te) (he : ∀ {L : Lnk} {m : Bool} {sc ss : Scope} {X : Cx} {e : Expr}, Good L T cl N sc ss X → chk T N c m sc e = true → PE X e (lift L X.K te))
    (hp : ∀ {sc : Scope} {e : Expr}, chk T N c true sc e = true → plainTest e = true) (ha : ∀ sc es, chkA T N c sc es = false) : Snd T cl N c := by
  refine ⟨fun g h => by rw [hw]; exact he g h, fun g h => ⟨by rw [hw]; exact t_of_e (he g h) (hp h), fun z => ?_⟩, fun g h => by rw [hw]; exact i_of_e (he g h), fun g h => by rw [ha] at h; cases h⟩
  have q := hp h
  rename_i e
  cases e <;> first | (cases z; done) | (cases q; done)
theorem snd_var {i : Nat} : Snd T cl N (.var i) := by
  refine Snd.plain (te := varE i) rfl (fun {L m sc ss X e} g h => ?_) (fun {sc e} h => ?_) (fun sc es => by cases es <;> rfl)
  · cases e with
    | Name x p =>
      simp only [chk, Bool.and_eq_true, Bool.not_eq_true', decide_eq_true_eq, visC, Bool.or_eq_true] at h
      obtain ⟨h1, ⟨h2, h3⟩, h4⟩ := h
      refine PE.imp (pe_var (i := i) (by rw [g.hN]; exact h1) (by rw [g.hsc]; rcases h2 with (a | a) | a; exact .inl a; exact .inr (.inl a); exact .inr (.inr a)) h3 h4) fun σ H Q ⟨R, τ, h, P, sr, hr, w, post⟩ => ?_
      have w : (match τ[i]? with | some (some d) => P d h | _ => False) := w
      split at w
      · rename_i d ed
        obtain ⟨v, ev, rv⟩ := sr.at_ i d ed
        exact ⟨v, ev, post.here hr (.of rv) w⟩
      · exact w.elim
    | _ => simp [chk] at h
  · cases e <;> first | rfl | (simp [chk] at h)
theorem snd_cst {d : D} : Snd T cl N (.cst d) := by
  refine Snd.plain (te := cstE d) rfl (fun {L m sc ss X e} g h => ?_) (fun {sc e} h => ?_) (fun sc es => by cases es <;> rfl)
  · cases e with
    | Constant c k p =>
      simp only [chk] at h
      unfold cstC at h
      split at h
      · exact PE.imp pe_non fun σ H Q ⟨R, τ, h, P, sr, hr, w, post⟩ => post.non hr w
      · have h := beq_iff_eq.mp h; subst h
        exact PE.imp pe_bl fun σ H Q ⟨R, τ, h, P, sr, hr, w, post⟩ => post.bl hr w
      · have h := of_decide_eq_true h; subst h
        exact PE.imp pe_int fun σ H Q ⟨R, τ, h, P, sr, hr, w, post⟩ => post.int hr w
      · have h := of_decide_eq_true h; subst h
        exact PE.imp pe_str fun σ H Q ⟨R, τ, h, P, sr, hr, w, post⟩ => post.str hr w
      · cases h
    | _ => simp [chk] at h
  · cases e <;> first | rfl | (simp [chk] at h)
theorem snd_glob {i : Nat} : Snd T cl N (.glob i) := by
  refine Snd.plain (te := globE T.gl i) rfl (fun {L m sc ss X e} g h => ?_) (fun {sc e} h => ?_) (fun sc es => by cases es <;> rfl)
  · cases e with
    | Name x p =>
      simp only [chk, Bool.and_eq_true, Bool.not_eq_true', decide_eq_true_eq, glC] at h
      obtain ⟨⟨h1, h2⟩, h3⟩ := h
      cases q : T.gl[i]? with
      | none => rw [q] at h3; cases h3
      | some pr =>
        obtain ⟨y, d⟩ := pr
        rw [q] at h3
        have e : y = x := by simpa using h3
        subst e
        obtain ⟨u, v, a, b, c⟩ := g.gl y d (List.mem_of_getElem? q)
        refine PE.imp (pe_glob (v := v) (by unfold Gl Env.kindOf; rw [g.hsc]; exact h1) a b h2) fun σ H Q ⟨R, τ, h, P, sr, hr, w, post⟩ => ?_
        have w : (match T.gl[i]? with | some (_, d) => P d h | none => False) := w
        rw [q] at w
        exact post.here hr (.of (c H R h.length)) w
    | _ => simp [chk] at h
  · cases e <;> first | rfl | (simp [chk] at h)
theorem snd_tup {as : CE} (ih : Snd T cl N as) : Snd T cl N (.tup as) := by
  refine Snd.plain (te := tupE (wp cl T.gl as).a) rfl (fun {L m sc ss X e} g h => ?_) (fun {sc e} h => ?_) (fun sc es => by cases es <;> rfl)
  · cases e with
    | Tuple es k p =>
      obtain ⟨ha, hs⟩ := ih.a g (show chkA T N as sc es = true from by simpa [chk] using h)
      refine PE.imp (pe_tup (args_ok hs ha)) fun σ H Q ⟨R, τ, h, P, sr, hr, w, post⟩ => ?_
      refine ⟨R, τ, h, _, sr, hr, w, fun R1 h1 H1 ds vs E1 hr1 rs w1 => ⟨by rw [← R0s_len rs]; exact w1.1, fun p hp => (post.on E1).tup hr1 hp rs w1.2⟩⟩
    | _ => simp [chk] at h
  · cases e <;> first | rfl | (simp [chk] at h)
theorem snd_lst {as : CE} (ih : Snd T cl N as) : Snd T cl N (.lst as) := by
  refine Snd.plain (te := lstE (wp cl T.gl as).a) rfl (fun {L m sc ss X e} g h => ?_) (fun {sc e} h => ?_) (fun sc es => by cases es <;> rfl)
  · cases e with
    | List es p =>
      obtain ⟨ha, hs⟩ := ih.a g (show chkA T N as sc es = true from by simpa [chk] using h)
      refine PE.imp (pe_lst (args_ok hs ha)) fun σ H Q ⟨R, τ, h, P, sr, hr, w, post⟩ => ?_
      refine ⟨R, τ, h, _, sr, hr, w, fun R1 h1 H1 ds vs E1 hr1 rs w1 => ⟨by rw [← R0s_len rs]; exact w1.1, fun p hp => (post.on E1).tl hr1 hp rs w1.2⟩⟩
    | _ => simp [chk] at h
  · cases e <;> first | rfl | (simp [chk] at h)
/-! displays of dicts -/
theorem merge_nodup : ∀ (more acc : List (Key × V)), (∀ a ∈ acc, ∀ b ∈ more, a.1 ≠ b.1) → (more.map (·.1)).Nodup → mergeK acc more = acc ++ more
  | [], acc, _, _ => by simp [mergeK]
  | (k, v) :: more, acc, h1, h2 => by
    rw [List.map_cons, List.nodup_cons] at h2
    show mergeK (putK acc k v) more = _
    have e : putK acc k v = acc ++ [(k, v)] := by
      unfold putK
      rw [if_neg]
      intro z
      rw [List.any_eq_true] at z
      obtain ⟨a, ha, z⟩ := z
      exact h1 a ha (k, v) List.mem_cons_self (of_decide_eq_true z)
    rw [e, merge_nodup more _ (fun a ha b hb => ?_) h2.2, List.append_assoc]
    · rfl
    · rcases List.mem_append.mp ha with ha | ha
      · exact h1 a ha b (List.mem_cons_of_mem _ hb)
      · simp at ha
        subst ha
        exact fun z => h2.1 (z ▸ List.mem_map_of_mem hb)
theorem pe_key {X : Cx} {k : Key} {c : Const} {o : Nat} {p : Pos} (h : cstC (keyD k) c = true) : PE X (.Constant c o p) (fun _ H Q => Q (kV k) H) := by
  cases k with
  | inl i => cases c <;> first | (cases h; done) | skip
             have h := of_decide_eq_true h
             subst h
             exact pe_int
  | inr x => cases c <;> first | (cases h; done) | skip
             have h := of_decide_eq_true h
             subst h
             exact pe_str
theorem pps_ok {X : Cx} {pos : Pos} : ∀ {ks : List Key} {keys : List (Option Expr)} {as : CE} {es : List Expr}, keysC ks keys = true → keys.length = es.length → ArgsOk L cl T.gl X as es →
    ∃ trs, PPs X pos keys es trs ∧ ∀ σ H Q, liftA L X.K ((wp cl T.gl as).a true) σ H (fun vs H1 => ∀ kvs : List (Key × V), kvs.map (·.1) = ks → kvs.map (·.2) = vs → Q (kvs.map fun kv => (kV kv.1, kv.2)) H1) → tPairs trs σ H Q
  | [], [], as, es, _, hl, ha => by
    have e0 : es = [] := List.length_eq_zero_iff.mp hl.symm
    subst e0
    cases ha.nil
    refine ⟨[], pps_nil, fun σ H Q ⟨R, τ, h, P, sr, hr, w, post⟩ => ?_⟩
    exact post R h H [] [] .refl hr (by simp only [R0s]) w [] rfl rfl
  | k :: ks, some kx :: keys, as, e :: es, hk, hl, ha => by
    have hk2 : ∃ c o p, kx = .Constant c o p ∧ (cstC (keyD k) c = true ∧ keysC ks keys = true) := by
      clear ha hl
      cases kx with
      | Constant c o p =>
        simp only [keysC, Bool.and_eq_true] at hk
        exact ⟨c, o, p, rfl, hk.1, hk.2⟩
      | _ => simp [keysC] at hk
    obtain ⟨c, o, p, rfl, hc⟩ := hk2
    obtain ⟨a, r, rfl, h1, h2⟩ := ha.cons
    obtain ⟨trs, pp, ih⟩ := pps_ok hc.2 (by simpa using hl) h2
    refine ⟨_, pps_cons (pe_key hc.1) h1 pp, fun σ H Q ⟨R, τ, h, P, sr, hr, w, post⟩ => ?_⟩
    show lift L X.K (wp cl T.gl a).e σ H fun y H2 => tPairs trs σ H2 fun ps H3 => Q ((kV k, y) :: ps) H3
    refine ⟨R, τ, h, _, sr, hr, w, fun R1 h1 H1 d v E1 hr1 rd w1 => ?_⟩
    obtain ⟨R2, h2, d', E2, hr2, ag, rd', w2⟩ := mat_ok E1 hr1 rd w1
    refine ih σ H1 _ ⟨R2, τ, h2, _, E2.srel sr, hr2, w2, fun R3 h3 H3 ds vs E3 hr3 rs w3 kvs e1 e2 => ?_⟩
    refine post R3 h3 H3 (d' :: ds) (v :: vs) (E2.trans E3) hr3 ?_ w3 ((k, v) :: kvs) (by rw [List.map_cons, e1]) (by rw [List.map_cons, e2])
    simp only [R0s]
    exact ⟨v, vs, rfl, E3.r0 rd', rs⟩
  | [], some _ :: _, _, _, hk, _, _ => by cases hk
  | [], none :: _, _, _, hk, _, _ => by cases hk
  | _ :: _, [], _, _, hk, _, _ => by cases hk
  | _ :: _, none :: _, _, _, hk, _, _ => by cases hk
  | _ :: _, some _ :: _, _, [], _, hl, _ => by cases hl
theorem keysC_len : ∀ {ks : List Key} {keys : List (Option Expr)}, keysC ks keys = true → keys.length = ks.length
  | [], [], _ => rfl
  | k :: ks, some (.Constant c o p) :: keys, h => by
    simp only [keysC, Bool.and_eq_true] at h
    simp [keysC_len h.2]
  | [], _ :: _, h => by cases h
  | _ :: _, [], h => by cases h
  | _ :: _, none :: _, h => by cases h
theorem keysC_all : ∀ {ks : List Key} {keys : List (Option Expr)}, keysC ks keys = true → keys.all (·.isSome) = true
  | [], [], _ => rfl
  | k :: ks, some (.Constant c o p) :: keys, h => by
    simp only [keysC, Bool.and_eq_true] at h
    simpa using keysC_all h.2
  | [], _ :: _, h => by cases h
  | _ :: _, [], h => by cases h
  | _ :: _, none :: _, h => by cases h
theorem snd_disp {ks : List Key} {as : CE} (ih : Snd T cl N as) : Snd T cl N (.disp ks as) := by
  refine Snd.plain (te := dispE ks (wp cl T.gl as).a) rfl (fun {L m sc ss X e} g h => ?_) (fun {sc e} h => ?_) (fun sc es => by cases es <;> rfl)
  · cases e with
    | Dict keys values p =>
      simp only [chk, Bool.and_eq_true, decide_eq_true_eq] at h
      obtain ⟨⟨⟨⟨⟨⟨_, h1⟩, h2⟩, h3⟩, h4⟩, h5⟩, h6⟩ := h
      obtain ⟨ha, hs⟩ := ih.a g h6
      obtain ⟨trs, pp, fin⟩ := pps_ok (pos := p) h1 h5 ha
      have hall : keys.all (·.isSome) = true := keysC_all h1
      have hkl := keysC_len h1
      refine PE.imp (pe_disp pp hall h5 (fun z => h3 (List.length_eq_zero_iff.mp (by rw [← hkl, z]; rfl))) (by omega)) fun σ H Q ⟨R, τ, h, P, sr, hr, w, post⟩ => ?_
      intro q hq
      have E0 : Ext X.K R h H R h (upd H q (.dK [])) := .laid hq
      have ne := hr.nep hq
      refine fin σ _ _ ⟨R, τ, h, _, E0.srel sr, hr.laid hq, w, fun R1 h1 H1 ds vs E1 hr1 rs w1 kvs e1 e2 => ?_⟩
      have hp1 : H1 q = some (.dK []) := E1.frame q _ upd_same ne
      have ne1 : ∀ i, i < h1.length → R1 i ≠ q := E1.ne upd_same ne
      refine ⟨hp1, kvs, rfl, by have := congrArg List.length e1; rw [List.length_map] at this; omega, ?_⟩
      rw [merge_nodup kvs [] (fun a ha => by cases ha) (by rw [e1]; exact h2), List.nil_append]
      have tp : ∀ a vs, SqT X.K H1 a vs → SqT X.K (upd H1 q (.dK kvs)) a vs := fun a vs r => r.imp (rd_wr hp1 (fun z => by cases z) fun ob z => by cases z) id
      have fz : ∀ a vs, FzL X.K H1 a vs → FzL X.K (upd H1 q (.dK kvs)) a vs := fun a vs r => r.imp (fun ⟨ob, r⟩ => ⟨ob, by rw [upd_ne (ne_of r hp1 (fun z => by cases z))]; exact r⟩) id
      have mono : ∀ (ds : List D) (vs : List V), R0s X.K H1 R1 h1.length ds vs → R0s X.K (upd H1 q (.dK kvs)) R1 h1.length ds vs := fun ds vs r => R0s_mono fz tp (fun i hi => ⟨hi, rfl⟩) ds vs r
      have E : Ext X.K R h H R1 h1 (upd H1 q (.dK kvs)) := by
        refine ⟨E1.len, E1.agr, fun i a b => ?_, fun a o e n => ?_, fun a o e => ?_, fun a vs r => tp a vs (E1.tup a vs (sqT_upd hq r)), fun a vs r => fz a vs (E1.frz a vs (fzL_upd hq r))⟩
        · have := E1.fresh i a b
          rwa [upd_ne (ne1 i b)] at this
        · have na : a ≠ q := ne_of_none e hq
          rw [upd_ne na]
          exact E1.frame a o (by rw [upd_ne na]; exact e) n
        · have na : a ≠ q := ne_of_none e hq
          obtain ⟨o', e'⟩ := E1.stay a o (by rw [upd_ne na]; exact e)
          exact ⟨o', by rw [upd_ne na]; exact e'⟩
      have hr2 : HRel X.K (upd H1 q (.dK kvs)) R1 h1 := by
        refine ⟨hr1.inj, fun i ob e => ?_⟩
        have hi := (List.getElem?_eq_some_iff.mp e).1
        have x := hr1.obj i ob e
        cases ob with
        | lst ds =>
          obtain ⟨vs, a, b⟩ := x
          exact ⟨vs, by rw [upd_ne (ne1 i hi)]; exact a, mono _ _ b⟩
        | dct tk ks vs =>
          show dcRel X.K (upd H1 q (.dK kvs)) R1 h1.length tk ks vs (upd H1 q (.dK kvs) (R1 i))
          rw [upd_ne (ne1 i hi)]
          rcases x with ⟨t, kvs, a, b, c⟩ | ⟨t, kvs, a, b, c⟩
          · exact .inl ⟨t, kvs, a, b, mono _ _ c⟩
          · exact .inr ⟨t, kvs, a, b, mono _ _ c⟩
        | ins c fs => exact x.elim
      refine post R1 h1 _ (.td false (ks.map keyD) ds) (.ref q) E hr2 ⟨q, rfl, hq, .inl ⟨rfl, kvs, upd_same, by rw [← e1, List.map_map]; rfl, ?_⟩, ne1⟩ w1.2
      rw [e2]
      exact mono _ _ rs
    | _ => simp [chk] at h
  · cases e <;> simp [chk] at h
theorem snd_call {f : Nat} {as : CE} (ih : Snd T cl N as) : Snd T cl N (.call f as) := by
  refine Snd.plain (te := callE cl f (wp cl T.gl as).a) rfl (fun {L m sc ss X e} g h => ?_) (fun {sc e} h => ?_) (fun sc es => by cases es <;> rfl)
  · cases e with
    | Call fn es kw p =>
      cases fn with
      | Name x q =>
        cases kw with
        | nil =>
          simp only [chk, Bool.and_eq_true, Bool.not_eq_true', decide_eq_true_eq, glC] at h
          obtain ⟨⟨⟨h1, h2⟩, h3⟩, h4⟩ := h
          obtain ⟨ha, hs⟩ := ih.a g h4
          obtain ⟨fa, fd, ps, k, F, hr, hm, hk, hb⟩ := g.fn f x h1
          have hg : Gl X x := by unfold Gl Env.kindOf; rw [g.hsc]; exact h2
          have hp : ∀ σ, PassesAt (L2.CX X.prog X.w) X σ (WE (fun cls d _ H => L.E cls d H) σ) := fun σ => passAt g.tk σ
          have fin : ∀ σ H Q, lift L X.K (callE cl f (wp cl T.gl as).a) σ H Q → liftA L X.K ((wp cl T.gl as).a true) σ H fun vs H1 => spD L.cls X.K cl.c f vs H1 Q (WE (fun cls d _ H => L.E cls d H) σ) := by
            intro σ H Q ⟨R, τ, h, P, sr, hr, w, post⟩
            refine ⟨R, τ, h, _, sr, hr, w, fun R1 h1 H1 ds vs E1 hr1 rs w1 => ?_⟩
            have xp := sr.xp.on E1
            rw [show L = ⟨cl.x, L.E, L.cls⟩ from by rw [← g.lx]] at xp
            exact ⟨R1, h1, ds, P, cl.x, rs, hr1, w1, post.on E1, xp⟩
          cases es with
          | nil =>
            have e0 := ha.nil
            subst e0
            refine PE.imp (pe_callG0 F hr g.gd hg hm hk hb hp h3) fun σ H Q w => ?_
            obtain ⟨R, τ, h, P, sr, hr, w, post⟩ := w
            have xp := sr.xp
            rw [show L = ⟨cl.x, L.E, L.cls⟩ from by rw [← g.lx]] at xp
            exact ⟨R, h, [], P, cl.x, by simp [R0s], hr, w, post, xp⟩
          | cons e1 es =>
            have hs' := hs
            rw [List.all_cons, Bool.and_eq_true] at hs'
            exact PE.imp (pe_callG F hr g.gd hg hm hk hb hp (args_ok hs ha) h3 (star_cons hs'.1) (star_any hs'.2)) fin
        | cons _ _ => simp [chk] at h
      | _ => simp [chk] at h
    | _ => simp [chk] at h
  · cases e <;> first | rfl | (simp [chk] at h)
theorem snd_meth {k : MP} {o as : CE} (ho : Snd T cl N o) (ih : Snd T cl N as) : Snd T cl N (.meth k o as) := by
  have inv : ∀ {m : Bool} {sc : Scope} {e : Expr}, chk T N (.meth k o as) m sc e = true → ∃ r es, methArgs T sc k e = some (r, es) ∧ chk T N o false sc r = true ∧ chkA T N as sc es = true := by
    intro m sc e h
    have h : (match methArgs T sc k e with | some (r, es) => chk T N o false sc r && chkA T N as sc es | none => false) = true := by cases e <;> exact h
    split at h
    · rename_i r es q
      rw [Bool.and_eq_true] at h
      exact ⟨r, es, q, h.1, h.2⟩
    · cases h
  refine Snd.plain (te := methE k (wp cl T.gl o).e (wp cl T.gl as).a) rfl (fun {L m sc ss X e} g h => ?_) (fun {sc e} h => ?_) (fun sc es => by cases es <;> rfl)
  · obtain ⟨r, es, q, h1, h2⟩ := inv h
    obtain ⟨ha, hs⟩ := ih.a g h2
    cases k with
    | append =>
      have q : (meth1 "append" e).bind hd2 = some (r, es) := q
      cases z : meth1 "append" e with
      | none => rw [z] at q; cases q
      | some l =>
        rw [z] at q
        obtain ⟨o', a', apos, pos, rfl, rfl, z1, z2, z3⟩ := meth1_inv z
        cases q
        exact s_append z1 z2 z3 (ho.e g h1) ha
    | popAt =>
      have q : (meth1 "pop" e).bind hd2 = some (r, es) := q
      cases z : meth1 "pop" e with
      | none => rw [z] at q; cases q
      | some l =>
        rw [z] at q
        obtain ⟨o', a', apos, pos, rfl, rfl, z1, z2, z3⟩ := meth1_inv z
        cases q
        exact s_popAt z1 z2 z3 (ho.e g h1) ha
  · obtain ⟨r, es, q, h1, h2⟩ := inv h
    cases k with
    | append =>
      have q : (meth1 "append" e).bind hd2 = some (r, es) := q
      cases z : meth1 "append" e with
      | none => rw [z] at q; cases q
      | some l =>
        obtain ⟨o', a', apos, pos, rfl, rfl, z1, z2, z3⟩ := meth1_inv z
        rfl
    | popAt =>
      have q : (meth1 "pop" e).bind hd2 = some (r, es) := q
      cases z : meth1 "pop" e with
      | none => rw [z] at q; cases q
      | some l =>
        obtain ⟨o', a', apos, pos, rfl, rfl, z1, z2, z3⟩ := meth1_inv z
        rfl
end
end Py

namespace Py
open PySem PySem.Spec PyProof.Rows L2
variable {L : Lnk}
section
variable {T : Tab} {cl : CallD} {N : List Str}
theorem primArgs_bool {sc : Scope} {p : Prim} {o : BoolOp} {vs : List Expr} {pos : Pos} : primArgs T sc p (.BoolOp o vs pos) = none := by
  cases p <;> rfl
theorem snd_prim {p : Prim} {as : CE} (ih : Snd T cl N as) : Snd T cl N (.prim p as) := by
  have inv : ∀ {m : Bool} {sc : Scope} {e : Expr}, chk T N (.prim p as) m sc e = true → ∃ es, primArgs T sc p e = some es ∧ chkA T N as sc es = true ∧ (m = true → plainTest e = true ∨ isCmp p = true) := by
    intro m sc e h
    have h : ((match primArgs T sc p e with | some es => chkA T N as sc es | none => false) && (!m || plainTest e || isCmp p)) = true := by cases e <;> exact h
    rw [Bool.and_eq_true] at h
    obtain ⟨h, h2⟩ := h
    split at h
    · rename_i es q
      refine ⟨es, q, h, fun hm => ?_⟩
      subst hm
      simpa using h2
    · cases h
  have he : ∀ {L : Lnk} {m : Bool} {sc ss : Scope} {X : Cx} {e : Expr}, Good L T cl N sc ss X → chk T N (.prim p as) m sc e = true → PE X e (lift L X.K (wp cl T.gl (.prim p as)).e) := by
    intro L m sc ss X e g h
    obtain ⟨es, q, h1, _⟩ := inv h
    exact prim_ok g q (ih.a g h1).1
  refine ⟨fun g h => he g h, fun {L sc ss X e} g h => ?_, fun g h => i_of_e (he g h), fun {L sc ss X es} g h => by cases es <;> cases h⟩
  obtain ⟨es, q, h1, h2⟩ := inv h
  refine ⟨?_, fun z => ?_⟩
  · rcases h2 rfl with h2 | h2
    · exact t_of_e (he g h) h2
    · obtain ⟨ha, _⟩ := ih.a g h1
      have cmp : ∀ {op : CmpOp} {r : R2} {f : D → D → Hd → (Bool → Hd → Prop) → Prop}, cmpA op e = some es → OpR X (compareOp op) r → Sim2 X.K r (fun x y h Q => f x y h (bo Q)) → (∀ x y h Q, wpP p [x, y] h Q = f x y h (bo Q)) → PT X e (liftT L X.K (wp cl T.gl (.prim p as)).t) := by
        intro op r f k1 k2 k3 k4
        clear h2
        obtain ⟨l, r', pos, rfl, rfl, hn⟩ := cmpA_inv k1
        obtain ⟨a1, b1, rfl, ha1, hb1⟩ := ha.two
        have z := s_cmpT (ta := (wp cl T.gl a1).e) (tb := (wp cl T.gl b1).e) k2 k3 hn ha1 hb1 (pos := pos)
        have e : (fun (τ : Sd) (h : Hd) (Q : PD) => (wp cl T.gl a1).e τ h fun x h1 => (wp cl T.gl b1).e τ h1 fun y h2 => f x y h2 (bo Q)) = (wp cl T.gl (.prim p (.acons a1 (.acons b1 .anil)))).e := by
          funext τ h Q
          show _ = (wp cl T.gl a1).e τ h fun x h1 => (wp cl T.gl b1).e τ h1 fun y h2 => wpP p [x, y] h2 Q
          congr 1
          funext x h1
          congr 1
          funext y h2
          rw [k4]
        rw [e] at z
        exact z
      cases p <;> first | (cases h2; done) | skip
      · exact cmp (f := eqW) q (op_eq.or (op_eqD g.hu)) sim_eq (fun _ _ _ _ => rfl)
      · exact cmp (f := fun x y h K => eqW x y h fun b h => K (!b) h) q (op_ne.or (op_neD g.hu)) sim_ne (fun _ _ _ _ => rfl)
      · exact cmp (f := ordW fun i j => decide (i < j)) q op_lt sim_ord (fun _ _ _ _ => rfl)
      · exact cmp (f := ordW fun i j => decide (i ≤ j)) q op_le sim_ord (fun _ _ _ _ => rfl)
      · exact cmp (f := ordW fun i j => decide (j < i)) q op_gt sim_ord (fun _ _ _ _ => rfl)
      · exact cmp (f := ordW fun i j => decide (j ≤ i)) q op_ge sim_ord (fun _ _ _ _ => rfl)
      · exact cmp (f := isW) q ok_is sim_is (fun _ _ _ _ => rfl)
      · exact cmp (f := fun x y h K => isW x y h fun b h => K (!b) h) q ok_isnot sim_isnot (fun _ _ _ _ => rfl)
      · exact cmp (f := inW) q op_in_seq sim_in (fun _ _ _ _ => rfl)
      · exact cmp (f := fun x y h K => inW x y h fun b h => K (!b) h) q op_notIn_seq sim_notin (fun _ _ _ _ => rfl)
      · exact cmp (f := dinW) q (or_din (by have := g.hu; omega)) sim_din (fun _ _ _ _ => rfl)
      · exact cmp (f := fun x y h K => dinW x y h fun b h => K (!b) h) q (or_dnotin (by have := g.hu; omega)) sim_dnotin (fun _ _ _ _ => rfl)
      · exact cmp (f := sinW) q op_in_sign sim_sin (fun _ _ _ _ => rfl)
      · exact cmp (f := fun x y h K => sinW x y h fun b h => K (!b) h) q op_notin_sign sim_snotin (fun _ _ _ _ => rfl)
      · exact cmp (f := inDW) q (op_inD g.hu) sim_inD (fun _ _ _ _ => rfl)
      · exact cmp (f := fun x y h K => inDW x y h fun b h => K (!b) h) q (op_notInD g.hu) sim_notinD (fun _ _ _ _ => rfl)
  · cases e <;> first | (cases z; done) | skip
    rw [primArgs_bool] at q
    cases q
theorem snd_ife {t a b : CE} (ht : Snd T cl N t) (ha : Snd T cl N a) (hb : Snd T cl N b) : Snd T cl N (.ife t a b) := by
  have he : ∀ {L : Lnk} {m : Bool} {sc ss : Scope} {X : Cx} {e : Expr}, Good L T cl N sc ss X → chk T N (.ife t a b) m sc e = true → PE X e (lift L X.K (wp cl T.gl (.ife t a b)).e) := by
    intro L m sc ss X e g h
    cases e with
    | IfExp t' a' b' p =>
      simp only [chk, Bool.and_eq_true] at h
      obtain ⟨⟨⟨_, h1⟩, h2⟩, h3⟩ := h
      refine PE.imp (pe_ifExp (ht.t g h1).1 (ha.e g h2) (hb.e g h3)) fun σ H Q ⟨R, τ, h, P, sr, hr, w, post⟩ => ?_
      refine ⟨R, τ, h, _, sr, hr, w, fun R1 h1 H1 k E1 hr1 w1 => ?_⟩
      cases k with
      | true => rw [if_pos rfl] at w1; exact iteT ⟨R1, τ, h1, P, E1.srel sr, hr1, w1, post.on E1⟩
      | false => rw [if_neg Bool.false_ne_true] at w1; exact iteF ⟨R1, τ, h1, P, E1.srel sr, hr1, w1, post.on E1⟩
    | _ => simp [chk] at h
  refine ⟨fun g h => he g h, fun {L sc ss X e} g h => ?_, fun g h => i_of_e (he g h), fun {L sc ss X es} g h => by cases es <;> cases h⟩
  cases e <;> simp [chk] at h
theorem snd_not {a : CE} (ha : Snd T cl N a) : Snd T cl N (.not_ a) := by
  have he : ∀ {L : Lnk} {m : Bool} {sc ss : Scope} {X : Cx} {e : Expr}, Good L T cl N sc ss X → chk T N (.not_ a) m sc e = true → PE X e (lift L X.K (wp cl T.gl (.not_ a)).e) := by
    intro L m sc ss X e g h
    cases e with
    | UnaryOp op x p =>
      cases op <;> first | (simp [chk] at h; done) | skip
      have h1 : chk T N a m sc x = true := h
      refine PE.imp (pe_not (ha.e g h1)) fun σ H Q ⟨R, τ, h, P, sr, hr, w, post⟩ => ?_
      refine ⟨R, τ, h, _, sr, hr, w, fun R1 h1 H1 d v E1 hr1 rd w1 => ?_⟩
      obtain ⟨k, rfl, w1⟩ := w1
      cases rd.blE
      exact ⟨k, rfl, (post.on E1).bl hr1 w1⟩
    | _ => simp [chk] at h
  refine ⟨fun g h => he g h, fun {L sc ss X e} g h => ?_, fun g h => i_of_e (he g h), fun {L sc ss X es} g h => by cases es <;> cases h⟩
  cases e with
  | UnaryOp op x p =>
    cases op <;> first | (simp [chk] at h; done) | skip
    have h1 : chk T N a true sc x = true := h
    refine ⟨PT.imp (pt_not (ha.t g h1).1) fun σ H Q ⟨R, τ, h, P, sr, hr, w, post⟩ => ?_, fun z => by cases z⟩
    exact ⟨R, τ, h, _, sr, hr, w, fun R1 h1 H1 k E1 hr1 w1 => post R1 h1 H1 _ E1 hr1 w1⟩
  | _ => simp [chk] at h
theorem snd_and {a b : CE} (ha : Snd T cl N a) (hb : Snd T cl N b) : Snd T cl N (.and_ a b) := by
  have inv : ∀ {m : Bool} {sc : Scope} {e : Expr}, chk T N (.and_ a b) m sc e = true → ∃ x y rest pos, e = .BoolOp .And (x :: y :: rest) pos ∧ chk T N a m sc x = true ∧ ((rest = [] ∧ chk T N b m sc y = true) ∨ (∃ z r, rest = z :: r ∧ chk T N b m sc (.BoolOp .And (y :: z :: r) pos) = true)) := by
    intro m sc e h
    cases e with
    | BoolOp op vs pos =>
      cases op <;> first | (simp [chk] at h; done) | skip
      match vs, h with
      | [], h => simp [chk] at h
      | [_], h => simp [chk] at h
      | [x, y], h =>
        simp only [chk, Bool.and_eq_true] at h
        exact ⟨x, y, [], pos, rfl, h.1, .inl ⟨rfl, h.2⟩⟩
      | x :: y :: z :: r, h =>
        simp only [chk, Bool.and_eq_true] at h
        exact ⟨x, y, z :: r, pos, rfl, h.1, .inr ⟨z, r, rfl, h.2⟩⟩
    | _ => simp [chk] at h
  have he : ∀ {L : Lnk} {m : Bool} {sc ss : Scope} {X : Cx} {e : Expr}, Good L T cl N sc ss X → chk T N (.and_ a b) m sc e = true → PE X e (lift L X.K (wp cl T.gl (.and_ a b)).e) := by
    intro L m sc ss X e g h
    obtain ⟨x, y, rest, pos, rfl, h1, h2⟩ := inv h
    have hB : PE X (.BoolOp .And (y :: rest) pos) (lift L X.K (wp cl T.gl b).e) := by
      rcases h2 with ⟨rfl, h2⟩ | ⟨z, r, rfl, h2⟩
      · exact pe_one (hb.e g h2)
      · exact hb.e g h2
    refine PE.imp (pe_and (ha.e g h1) hB) fun σ H Q ⟨R, τ, h, P, sr, hr, w, post⟩ => ?_
    refine ⟨R, τ, h, _, sr, hr, w, fun R1 h1 H1 d v E1 hr1 rd w1 => ?_⟩
    obtain ⟨k, rfl, w1⟩ := w1
    cases rd.blE
    refine ⟨k, rfl, ?_⟩
    cases k with
    | true => rw [if_pos rfl] at w1; exact iteT ⟨R1, τ, h1, P, E1.srel sr, hr1, w1, post.on E1⟩
    | false => rw [if_neg Bool.false_ne_true] at w1; exact iteF ((post.on E1).bl hr1 w1)
  refine ⟨fun g h => he g h, fun {L sc ss X e} g h => ?_, fun g h => i_of_e (he g h), fun {L sc ss X es} g h => by cases es <;> cases h⟩
  obtain ⟨x, y, rest, pos, rfl, h1, h2⟩ := inv h
  have hB : PW X (.BoolOp .And (y :: rest) pos) (liftT L X.K (wp cl T.gl b).t) := by
    rcases h2 with ⟨rfl, h2⟩ | ⟨z, r, rfl, h2⟩
    · exact pw_and1 (hb.t g h2).1
    · exact (hb.t g h2).2 rfl
  have hW : PW X (.BoolOp .And (x :: y :: rest) pos) (liftT L X.K (wp cl T.gl (.and_ a b)).t) := ⟨fun wh pins s σ H Q I ⟨R, τ, h, P, sr, hr, w, post⟩ => (pw_and (ha.t g h1).1 hB).run wh pins s σ H Q I
    ⟨R, τ, h, _, sr, hr, w, fun R1 h1 H1 k E1 hr1 w1 => by
      cases k with
      | true => rw [if_pos rfl] at w1; exact iteT ⟨R1, τ, h1, P, E1.srel sr, hr1, w1, fun R2 h2 H2 k2 E2 hr2 w2 => post R2 h2 H2 k2 (E1.trans E2) hr2 w2⟩
      | false => rw [if_neg Bool.false_ne_true] at w1; exact iteF (post R1 h1 H1 false E1 hr1 w1)⟩⟩
  exact ⟨hW.pt, fun _ => hW⟩
theorem snd_or {a b : CE} (ha : Snd T cl N a) (hb : Snd T cl N b) : Snd T cl N (.or_ a b) := by
  have inv : ∀ {m : Bool} {sc : Scope} {e : Expr}, chk T N (.or_ a b) m sc e = true → ∃ x y rest pos, e = .BoolOp .Or (x :: y :: rest) pos ∧ chk T N a m sc x = true ∧ ((rest = [] ∧ chk T N b m sc y = true) ∨ (∃ z r, rest = z :: r ∧ chk T N b m sc (.BoolOp .Or (y :: z :: r) pos) = true)) := by
    intro m sc e h
    cases e with
    | BoolOp op vs pos =>
      cases op <;> first | (simp [chk] at h; done) | skip
      match vs, h with
      | [], h => simp [chk] at h
      | [_], h => simp [chk] at h
      | [x, y], h =>
        simp only [chk, Bool.and_eq_true] at h
        exact ⟨x, y, [], pos, rfl, h.1, .inl ⟨rfl, h.2⟩⟩
      | x :: y :: z :: r, h =>
        simp only [chk, Bool.and_eq_true] at h
        exact ⟨x, y, z :: r, pos, rfl, h.1, .inr ⟨z, r, rfl, h.2⟩⟩
    | _ => simp [chk] at h
  have he : ∀ {L : Lnk} {m : Bool} {sc ss : Scope} {X : Cx} {e : Expr}, Good L T cl N sc ss X → chk T N (.or_ a b) m sc e = true → PE X e (lift L X.K (wp cl T.gl (.or_ a b)).e) := by
    intro L m sc ss X e g h
    obtain ⟨x, y, rest, pos, rfl, h1, h2⟩ := inv h
    have hB : PE X (.BoolOp .Or (y :: rest) pos) (lift L X.K (wp cl T.gl b).e) := by
      rcases h2 with ⟨rfl, h2⟩ | ⟨z, r, rfl, h2⟩
      · exact pe_one (hb.e g h2)
      · exact hb.e g h2
    refine PE.imp (pe_or (ha.e g h1) hB) fun σ H Q ⟨R, τ, h, P, sr, hr, w, post⟩ => ?_
    refine ⟨R, τ, h, _, sr, hr, w, fun R1 h1 H1 d v E1 hr1 rd w1 => ?_⟩
    obtain ⟨k, rfl, w1⟩ := w1
    cases rd.blE
    refine ⟨k, rfl, ?_⟩
    cases k with
    | false => rw [if_neg Bool.false_ne_true] at w1; exact iteF ⟨R1, τ, h1, P, E1.srel sr, hr1, w1, post.on E1⟩
    | true => rw [if_pos rfl] at w1; exact iteT ((post.on E1).bl hr1 w1)
  refine ⟨fun g h => he g h, fun {L sc ss X e} g h => ?_, fun g h => i_of_e (he g h), fun {L sc ss X es} g h => by cases es <;> cases h⟩
  obtain ⟨x, y, rest, pos, rfl, h1, h2⟩ := inv h
  have hB : PW X (.BoolOp .Or (y :: rest) pos) (liftT L X.K (wp cl T.gl b).t) := by
    rcases h2 with ⟨rfl, h2⟩ | ⟨z, r, rfl, h2⟩
    · exact pw_or1 (hb.t g h2).1
    · exact (hb.t g h2).2 rfl
  have hW : PW X (.BoolOp .Or (x :: y :: rest) pos) (liftT L X.K (wp cl T.gl (.or_ a b)).t) := ⟨fun wh pins s σ H Q I ⟨R, τ, h, P, sr, hr, w, post⟩ => (pw_or (ha.t g h1).1 hB).run wh pins s σ H Q I
    ⟨R, τ, h, _, sr, hr, w, fun R1 h1 H1 k E1 hr1 w1 => by
      cases k with
      | false => rw [if_neg Bool.false_ne_true] at w1; exact iteF ⟨R1, τ, h1, P, E1.srel sr, hr1, w1, fun R2 h2 H2 k2 E2 hr2 w2 => post R2 h2 H2 k2 (E1.trans E2) hr2 w2⟩
      | true => rw [if_pos rfl] at w1; exact iteT (post R1 h1 H1 true E1 hr1 w1)⟩⟩
  exact ⟨hW.pt, fun _ => hW⟩
theorem snd_chain {p q : Prim} {a b c : CE} (ha : Snd T cl N a) (hb : Snd T cl N b) (hc : Snd T cl N c) : Snd T cl N (.chain p q a b c) := by
  have inv : ∀ {m : Bool} {sc : Scope} {e : Expr}, chk T N (.chain p q a b c) m sc e = true → ∃ x y z o1 o2 f k pos, e = .Compare x [o1, o2] [y, z] pos ∧ ordOp p = some (o1, f) ∧ ordOp q = some (o2, k) ∧ chk T N a false sc x = true ∧ chk T N b false sc y = true ∧ chk T N c false sc z = true := by
    intro m sc e h
    cases e with
    | Compare x ops es pos =>
      match ops, es, h with
      | [o1, o2], [y, z], h =>
        simp only [chk, Bool.and_eq_true] at h
        obtain ⟨⟨⟨h2, h3⟩, h4⟩, h5⟩ := h
        split at h2
        · rename_i p1 f q1 k e1 e2
          simp only [Bool.and_eq_true, decide_eq_true_eq] at h2
          obtain ⟨rfl, rfl⟩ := h2
          exact ⟨x, y, z, _, _, f, k, pos, rfl, e1, e2, h3, h4, h5⟩
        · cases h2
      | [], _, h => simp [chk] at h
      | [_], _, h => simp [chk] at h
      | _ :: _ :: _ :: _, _, h => simp [chk] at h
      | [_, _], [], h => simp [chk] at h
      | [_, _], [_], h => simp [chk] at h
      | [_, _], _ :: _ :: _ :: _, h => simp [chk] at h
    | _ => simp [chk] at h
  have he : ∀ {L : Lnk} {m : Bool} {sc ss : Scope} {X : Cx} {e : Expr}, Good L T cl N sc ss X → chk T N (.chain p q a b c) m sc e = true → PE X e (lift L X.K (wp cl T.gl (.chain p q a b c)).e) := by
    intro L m sc ss X e g h
    obtain ⟨x, y, z, o1, o2, f, k, pos, rfl, e1, e2, h1, h2, h3⟩ := inv h
    obtain ⟨r1, w1, n1, n2⟩ := ordOp_ok (X := X) e1
    obtain ⟨r2, w2, n3, n4⟩ := ordOp_ok (X := X) e2
    exact PE.imp (pe_chain r1 r2 (ha.e g h1) (hb.e g h2) (hc.e g h3) (lastMarks2 n3 n4)) fun σ H Q w => chain_sim w1 w2 σ H Q w
  refine ⟨fun g h => he g h, fun {L sc ss X e} g h => ?_, fun g h => i_of_e (he g h), fun {L sc ss X es} g h => by cases es <;> cases h⟩
  obtain ⟨x, y, z, o1, o2, f, k, pos, rfl, e1, e2, h1, h2, h3⟩ := inv h
  obtain ⟨r1, w1, n1, n2⟩ := ordOp_ok (X := X) e1
  obtain ⟨r2, w2, n3, n4⟩ := ordOp_ok (X := X) e2
  refine ⟨PT.imp (pt_chain r1 r2 (ha.e g h1) (hb.e g h2) (hc.e g h3) (lastMarks2 n3 n4)) fun σ H Q ⟨R, τ, h, P, sr, hr, w, post⟩ => ?_, fun z => by cases z⟩
  refine chain_sim (p := p) (q := q) (ta := (wp cl T.gl a).e) (tb := (wp cl T.gl b).e) (tc := (wp cl T.gl c).e) w1 w2 σ H _ ⟨R, τ, h, (fun d h' => match d with | .bl k => P k h' | _ => False), sr, hr, ?_, fun R1 h1 H1 d v E1 hr1 rd w1 => ?_⟩
  · have w : chainE p q (wp cl T.gl a).e (wp cl T.gl b).e (wp cl T.gl c).e τ h (fun d h' => match truth h' d with | some k => P k h' | none => False) := w
    unfold chainE at w ⊢
    simp only [w2] at w ⊢
    exact w
  · cases d with
    | bl k => cases rd.blE; exact ⟨k, rfl, post R1 h1 H1 k E1 hr1 w1⟩
    | _ => exact w1.elim
theorem snd_sl2 {a b c : CE} (ha : Snd T cl N a) (hb : Snd T cl N b) (hc : Snd T cl N c) : Snd T cl N (.sl2 a b c) := by
  have inv : ∀ {m : Bool} {sc : Scope} {e : Expr}, chk T N (.sl2 a b c) m sc e = true → ∃ x y z p pos, e = .Subscript x (.Slice (some y) (some z) none p) pos ∧ chk T N a false sc x = true ∧ chk T N b false sc y = true ∧ chk T N c false sc z = true := by
    intro m sc e h
    cases e with
    | Subscript x i pos =>
      cases i with
      | Slice lo hi st p =>
        match lo, hi, st, h with
        | some y, some z, none, h =>
          simp only [chk, Bool.and_eq_true] at h
          exact ⟨x, y, z, p, pos, rfl, h.1.1, h.1.2, h.2⟩
        | none, _, _, h => simp [chk] at h
        | some _, none, _, h => simp [chk] at h
        | some _, some _, some _, h => simp [chk] at h
      | _ => simp [chk] at h
    | _ => simp [chk] at h
  refine Snd.plain (te := sl2E (wp cl T.gl a).e (wp cl T.gl b).e (wp cl T.gl c).e) rfl (fun {L m sc ss X e} g h => ?_) (fun {sc e} h => ?_) (fun sc es => by cases es <;> rfl)
  · obtain ⟨x, y, z, p, pos, rfl, h1, h2, h3⟩ := inv h
    exact s_sl2 (ha.e g h1) (hb.e g h2) (hc.e g h3)
  · obtain ⟨x, y, z, p, pos, rfl, _⟩ := inv h
    rfl
theorem snd_nil : Snd T cl N .anil := by
  refine ⟨fun {L m sc ss X e} g h => ?_, fun {L sc ss X e} g h => ?_, fun {L m sc ss X e tg} g h => ?_, fun {L sc ss X es} g h => ?_⟩
  · cases e <;> simp [chk] at h
  · cases e <;> simp [chk] at h
  · cases e <;> simp [chk] at h
  · cases es with
    | nil => exact ⟨trivial, rfl⟩
    | cons _ _ => simp [chkA] at h
theorem snd_cons {a r : CE} (ha : Snd T cl N a) (hr : Snd T cl N r) : Snd T cl N (.acons a r) := by
  refine ⟨fun {L m sc ss X e} g h => ?_, fun {L sc ss X e} g h => ?_, fun {L m sc ss X e tg} g h => ?_, fun {L sc ss X es} g h => ?_⟩
  · cases e <;> simp [chk] at h
  · cases e <;> simp [chk] at h
  · cases e <;> simp [chk] at h
  · cases es with
    | nil => simp [chkA] at h
    | cons e es =>
      simp only [chkA, Bool.and_eq_true] at h
      obtain ⟨⟨h1, h2⟩, h3⟩ := h
      obtain ⟨h4, h5⟩ := hr.a g h3
      exact ⟨⟨ha.e g h2, h4⟩, by rw [List.all_cons, h1, h5]; rfl⟩
theorem snd_r1 {a : CE} (ha : Snd T cl N a) : Snd T cl N (.r1 a) := by
  have inv : ∀ {m : Bool} {sc : Scope} {e : Expr}, chk T N (.r1 a) m sc e = true → ∃ y p pos, e = .Call (.Name "range" p) [y] [] pos ∧ ("range" : Str) ∈ T.bn ∧ sc.names.lookup ("range" : Str) = some .globalImplicit ∧ noStar y = true ∧ chk T N a false sc y = true := by
    intro m sc e h
    cases e with
    | Call fn es kw pos =>
      cases fn with
      | Name x p =>
        match es, kw, h with
        | [y], [], h =>
          simp only [chk, Bool.and_eq_true, decide_eq_true_eq, glC] at h
          obtain ⟨⟨⟨⟨rfl, h2⟩, h3⟩, h4⟩, h5⟩ := h
          exact ⟨y, p, pos, rfl, h2, h3, h4, h5⟩
        | [], _, h => simp [chk] at h
        | [_], _ :: _, h => simp [chk] at h
        | _ :: _ :: _, _, h => simp [chk] at h
      | _ => simp [chk] at h
    | _ => simp [chk] at h
  refine ⟨fun g h => pe_no, fun {L sc ss X e} g h => ?_, fun {L m sc ss X e tg} g h => ?_, fun {L sc ss X es} g h => by cases es <;> cases h⟩
  · obtain ⟨y, p, pos, rfl, _⟩ := inv h
    exact ⟨t_of_e pe_no rfl, fun z => by cases z⟩
  · obtain ⟨y, p, pos, rfl, h1, h2, h3, h4⟩ := inv h
    refine PI.imp (pi_range1 (by unfold Gl Env.kindOf; rw [g.hsc]; exact h2) (g.bn _ h1) (pa_cons (ha.e g h4) pa_nil (star_cons h3)) (star_cons h3)) fun σ H Z ⟨R, τ, h, P, sr, hr, w, post⟩ => ?_
    refine ⟨R, τ, h, _, sr, hr, w, fun R1 h1 H1 d v E1 hr1 rd w1 => ?_⟩
    cases d with
    | int n =>
      cases rd.intE
      obtain ⟨⟨b1, b2⟩, w1⟩ := w1
      exact ⟨n, rfl, b1, b2, post R1 h1 H1 _ _ E1 hr1 w1 walks_range⟩
    | _ => exact w1.elim
theorem snd_r2 {a b : CE} (ha : Snd T cl N a) (hb : Snd T cl N b) : Snd T cl N (.r2 a b) := by
  have inv : ∀ {m : Bool} {sc : Scope} {e : Expr}, chk T N (.r2 a b) m sc e = true → ∃ y z p pos, e = .Call (.Name "range" p) [y, z] [] pos ∧ ("range" : Str) ∈ T.bn ∧ sc.names.lookup ("range" : Str) = some .globalImplicit ∧ noStar y = true ∧ noStar z = true ∧ chk T N a false sc y = true ∧ chk T N b false sc z = true := by
    intro m sc e h
    cases e with
    | Call fn es kw pos =>
      cases fn with
      | Name x p =>
        match es, kw, h with
        | [y, z], [], h =>
          simp only [chk, Bool.and_eq_true, decide_eq_true_eq, glC] at h
          obtain ⟨⟨⟨⟨⟨⟨rfl, h2⟩, h3⟩, h4⟩, h5⟩, h6⟩, h7⟩ := h
          exact ⟨y, z, p, pos, rfl, h2, h3, h4, h5, h6, h7⟩
        | [], _, h => simp [chk] at h
        | [_], _, h => simp [chk] at h
        | [_, _], _ :: _, h => simp [chk] at h
        | _ :: _ :: _ :: _, _, h => simp [chk] at h
      | _ => simp [chk] at h
    | _ => simp [chk] at h
  refine ⟨fun g h => pe_no, fun {L sc ss X e} g h => ?_, fun {L m sc ss X e tg} g h => ?_, fun {L sc ss X es} g h => by cases es <;> cases h⟩
  · obtain ⟨y, z, p, pos, rfl, _⟩ := inv h
    exact ⟨t_of_e pe_no rfl, fun z => by cases z⟩
  · obtain ⟨y, z, p, pos, rfl, h1, h2, h3, h4, h5, h6⟩ := inv h
    refine PI.imp (pi_range2 (by unfold Gl Env.kindOf; rw [g.hsc]; exact h2) (g.bn _ h1) (pa_cons (ha.e g h5) (pa_cons (hb.e g h6) pa_nil (star_cons h4)) (star_cons h3)) (by rw [star_cons h3, star_cons h4]; rfl) (by rw [star_cons h4]; rfl)) fun σ H Z ⟨R, τ, h, P, sr, hr, w, post⟩ => ?_
    refine ⟨R, τ, h, _, sr, hr, w, fun R1 h1 H1 d v E1 hr1 rd w1 => ⟨R1, τ, h1, _, E1.srel sr, hr1, w1, fun R2 h2 H2 d2 v2 E2 hr2 rd2 w2 => ?_⟩⟩
    cases d with
    | int i =>
      cases d2 with
      | int j =>
        cases rd.intE
        cases rd2.intE
        obtain ⟨b1, w2⟩ := w2
        exact ⟨i, j, rfl, b1, post R2 h2 H2 _ _ (E1.trans E2) hr2 w2 walks_range⟩
      | _ => exact w2.elim
    | _ => exact w2.elim
def condT (cl : CallD) (gl : List (Str × D)) : Option Unit → CE → TTd
  | none, _ => yesT
  | some _, c => (wp cl gl c).t
theorem compInv {p : Pat} {it : CE} {cd : Option Unit} {c elt : CE} {m : Bool} {sc : Scope} {e : Expr} (h : chk T N (.comp p it cd c elt) m sc e = true) : ∃ e' tg iter ifs scope pos, e = .ListComp e' [⟨tg, iter, ifs, 0⟩] scope pos ∧ blkC N sc scope (ownOf N p) = true ∧ noSet iter = true ∧ chk T N it false sc iter = true ∧ chkP N scope p tg = true ∧ chk T N elt false (relS scope sc) e' = true ∧
      ((cd = none ∧ ifs = []) ∨ ∃ u i, cd = some u ∧ ifs = [i] ∧ chk T N c true (relS scope sc) i = true) := by
  cases e with
  | ListComp e' gs scope pos =>
    match gs, h with
    | [⟨tg, iter, ifs, k⟩], h =>
      simp only [chk, Bool.and_eq_true, decide_eq_true_eq] at h
      obtain ⟨⟨⟨⟨⟨⟨rfl, h1⟩, h2⟩, h3⟩, h4⟩, h5⟩, h6⟩ := h
      refine ⟨e', tg, iter, ifs, scope, pos, rfl, h1, h2, h3, h4, h5, ?_⟩
      split at h6
      · exact .inl ⟨rfl, rfl⟩
      · exact .inr ⟨_, _, rfl, rfl, h6⟩
      · cases h6
    | [], h => simp [chk] at h
    | _ :: _ :: _, h => simp [chk] at h
  | _ => simp [chk] at h
theorem own_ix {p : Pat} : (ownOf N p).map (·.2) = p.ix := by unfold ownOf; rw [List.map_map]; exact List.map_id _
theorem comp_tests {cd : Option Unit} {c : CE} {sc ss scope : Scope} {X : Cx} {ifs : List Expr} (g : Good L T cl N sc ss X) (hc : Snd T cl.quiet N c) (hk : scope.kind = .function) (h6 : (cd = none ∧ ifs = []) ∨ ∃ u i, cd = some u ∧ ifs = [i] ∧ chk T N c true (relS scope sc) i = true)
    (s : Shared) (H : Hp) (C : Addr) (l : List (Str × Addr)) (fp : List Addr) : PTs (X.blk s H scope (compEnvC scope l C X.env) fp) ifs (liftT L.quiet X.K (condT cl.quiet T.gl cd c)) := by
  rcases h6 with ⟨rfl, rfl⟩ | ⟨u, i, rfl, rfl, h6⟩
  · exact ⟨fun pins s σ H Q I ⟨R, τ, h, P, sr, hr, w, post⟩ => pts_nil.run pins s σ H Q I (post R h H true .refl hr w)⟩
  · exact pts_one (hc.t (g.blk hk s H C l fp) h6).1
theorem comp_wp {p : Pat} {it : CE} {cd : Option Unit} {c elt : CE} : wp cl T.gl (.comp p it cd c elt) = mkR (compE (wp cl T.gl it).i p (condT cl.quiet T.gl cd c) (wp cl.quiet T.gl elt).e) := by cases cd <;> rfl
theorem snd_comp {p : Pat} {it : CE} {cd : Option Unit} {c elt : CE} (hi : Snd T cl N it) (hc : Snd T cl.quiet N c) (he0 : Snd T cl.quiet N elt) : Snd T cl N (.comp p it cd c elt) := by
  refine Snd.plain comp_wp (fun {L m sc ss X e} g h => ?_) (fun {sc e} h => ?_) (fun sc es => by cases es <;> rfl)
  · obtain ⟨e', tg, iter, ifs, scope, pos, rfl, h1, h2, h3, h4, h5, h6⟩ := compInv h
    have ok := blkOk_by h1
    have P := pe_lc (X := X) (own := ownOf N p) (pos := pos) (elt := e') (te := lift L.quiet X.K (wp cl.quiet T.gl elt).e) (g := gOf X.K p) g.calm (by rw [g.hN]; exact g.nd) (hi.i g h3) (by rw [g.hN, g.hsc]; exact ok)
      (fun s H C l fp => pg_of (g.blk ok.kind s H C l fp) h4) (comp_tests g hc ok.kind h6) (fun s H C l fp => he0.e (g.blk ok.kind s H C l fp) h5) (noSet_fold h2)
    rw [own_ix] at P
    exact PE.imp P fun σ H Q w => comp_sim σ H Q w
  · obtain ⟨e', tg, iter, ifs, scope, pos, rfl, _⟩ := compInv h
    rfl
/-- name = [..], stored within the comprehension's frame -/
theorem ss_setLc {i : Nat} {y : Str} {p : Pat} {it : CE} {cd : Option Unit} {c elt : CE} {sc : Scope} {X : Cx} {e : Expr} {py spos : Pos} (hi : Snd T cl N it) (hc : Snd T cl.quiet N c) (he0 : Snd T cl.quiet N elt) (g : Good L T cl N sc sc X) (hy : N[i]? = some y)
    (hyl : sc.names.lookup y = some .local) (hsw : swapsWith e (some (.Name y py)) spos.line X.env = pure true) (h : chk T N (.comp p it cd c elt) false sc e = true) :
    ∃ tE, PS X (.Assign [.Name y py] e spos) (tAsg tE (gName i)) ∧ ∀ σ H Q, lift L X.K (wp cl T.gl (.comp p it cd c elt)).e σ H Q → tE σ H Q := by
  obtain ⟨e', tg, iter, ifs, scope, pos, rfl, h1, h2, h3, h4, h5, h6⟩ := compInv h
  have ok := blkOk_by h1
  have P := ps_setLc (X := X) (own := ownOf N p) (pos := pos) (elt := e') (te := lift L.quiet X.K (wp cl.quiet T.gl elt).e) (g := gOf X.K p) g.calm (by rw [g.hN]; exact g.nd) (by rw [g.hN]; exact hy) (by rw [g.hsc]; exact hyl) hsw (hi.i g h3) (by rw [g.hN, g.hsc]; exact ok)
    (fun s H C l fp => pg_of (g.blk ok.kind s H C l fp) h4) (comp_tests g hc ok.kind h6) (fun s H C l fp => he0.e (g.blk ok.kind s H C l fp) h5) (noSet_fold h2)
  rw [own_ix] at P
  exact ⟨_, P, fun σ H Q w => by rw [comp_wp] at w; exact comp_sim σ H Q w⟩
/-! two clauses -/
theorem comp2Inv {p : Pat} {it : CE} {p2 : Pat} {it2 elt : CE} {m : Bool} {sc : Scope} {e : Expr} (h : chk T N (.comp2 p it p2 it2 elt) m sc e = true) : ∃ e' tg iter tg1 iter1 scope pos, e = .ListComp e' [⟨tg, iter, [], 0⟩, ⟨tg1, iter1, [], 0⟩] scope pos ∧
      blkC N sc scope (ownOf N (.tp (p.ix ++ p2.ix))) = true ∧ noSet iter = true ∧ noSet iter1 = true ∧ chk T N it false sc iter = true ∧ chkP N scope p tg = true ∧ chk T N it2 false (relS scope sc) iter1 = true ∧ chkP N scope p2 tg1 = true ∧ chk T N elt false (relS scope sc) e' = true := by
  cases e with
  | ListComp e' gs scope pos =>
    match gs, h with
    | [⟨tg, iter, [], k⟩, ⟨tg1, iter1, [], k1⟩], h =>
      simp only [chk, Bool.and_eq_true, decide_eq_true_eq] at h
      obtain ⟨⟨⟨⟨⟨⟨⟨⟨⟨rfl, rfl⟩, h1⟩, h2⟩, h3⟩, h4⟩, h5⟩, h6⟩, h7⟩, h8⟩ := h
      exact ⟨e', tg, iter, tg1, iter1, scope, pos, rfl, h1, h2, h3, h4, h5, h6, h7, h8⟩
    | [], h => simp [chk] at h
    | [_], h => simp [chk] at h
    | _ :: _ :: _ :: _, h => simp [chk] at h
    | [⟨_, _, _ :: _, _⟩, _], h => simp [chk] at h
    | [⟨_, _, [], _⟩, ⟨_, _, _ :: _, _⟩], h => simp [chk] at h
  | _ => simp [chk] at h
theorem own_ix2 {p p2 : Pat} : (ownOf N (.tp (p.ix ++ p2.ix))).map (·.2) = p.ix ++ p2.ix := own_ix
theorem snd_comp2 {p : Pat} {it : CE} {p2 : Pat} {it2 elt : CE} (hi : Snd T cl N it) (hi2 : Snd T cl.quiet N it2) (he0 : Snd T cl.quiet N elt) : Snd T cl N (.comp2 p it p2 it2 elt) := by
  refine Snd.plain (te := comp2E (wp cl T.gl it).i p (wp cl.quiet T.gl it2).i p2 (wp cl.quiet T.gl elt).e) rfl (fun {L m sc ss X e} g h => ?_) (fun {sc e} h => ?_) (fun sc es => by cases es <;> rfl)
  · obtain ⟨e', tg, iter, tg1, iter1, scope, pos, rfl, h1, h2, h3, h4, h5, h6, h7, h8⟩ := comp2Inv h
    have ok := blkOk_by h1
    have P := pe_lc2 (X := X) (own := ownOf N (.tp (p.ix ++ p2.ix))) (vs1 := p2.ix) (pos := pos) (elt := e') (te := lift L.quiet X.K (wp cl.quiet T.gl elt).e) (g := gOf X.K p) (g1 := gOf X.K p2) (wi1 := liftI L.quiet X.K (wp cl.quiet T.gl it2).i) g.calm (by rw [g.hN]; exact g.nd) (hi.i g h4) (by rw [g.hN, g.hsc]; exact ok)
      (fun i hi => by rw [own_ix2]; exact List.mem_append_right _ hi)
      (fun s H C l fp => pg_of (g.blk ok.kind s H C l fp) h5) (fun s H C l fp => pts_nil) (fun s H C l fp => hi2.i (g.blk ok.kind s H C l fp) h6)
      (fun s H C l fp => pg_of (g.blk ok.kind s H C l fp) h7) (fun s H C l fp => pts_nil) (fun s H C l fp => he0.e (g.blk ok.kind s H C l fp) h8) (noSet_fold h2) (fun env => noSet_fold h3)
    rw [own_ix2] at P
    exact PE.imp P fun σ H Q w => comp2_sim σ H Q w
  · obtain ⟨e', tg, iter, tg1, iter1, scope, pos, rfl, _⟩ := comp2Inv h
    rfl
theorem ss_setLc2 {i : Nat} {y : Str} {p : Pat} {it : CE} {p2 : Pat} {it2 elt : CE} {sc : Scope} {X : Cx} {e : Expr} {py spos : Pos} (hi : Snd T cl N it) (hi2 : Snd T cl.quiet N it2) (he0 : Snd T cl.quiet N elt) (g : Good L T cl N sc sc X) (hy : N[i]? = some y)
    (hyl : sc.names.lookup y = some .local) (hsw : swapsWith e (some (.Name y py)) spos.line X.env = pure true) (h : chk T N (.comp2 p it p2 it2 elt) false sc e = true) :
    ∃ tE, PS X (.Assign [.Name y py] e spos) (tAsg tE (gName i)) ∧ ∀ σ H Q, lift L X.K (wp cl T.gl (.comp2 p it p2 it2 elt)).e σ H Q → tE σ H Q := by
  obtain ⟨e', tg, iter, tg1, iter1, scope, pos, rfl, h1, h2, h3, h4, h5, h6, h7, h8⟩ := comp2Inv h
  have ok := blkOk_by h1
  have P := ps_setLc2 (X := X) (own := ownOf N (.tp (p.ix ++ p2.ix))) (vs1 := p2.ix) (pos := pos) (elt := e') (te := lift L.quiet X.K (wp cl.quiet T.gl elt).e) (g := gOf X.K p) (g1 := gOf X.K p2) (wi1 := liftI L.quiet X.K (wp cl.quiet T.gl it2).i) g.calm (by rw [g.hN]; exact g.nd) (by rw [g.hN]; exact hy) (by rw [g.hsc]; exact hyl) hsw (hi.i g h4) (by rw [g.hN, g.hsc]; exact ok)
    (fun i hi => by rw [own_ix2]; exact List.mem_append_right _ hi)
    (fun s H C l fp => pg_of (g.blk ok.kind s H C l fp) h5) (fun s H C l fp => pts_nil) (fun s H C l fp => hi2.i (g.blk ok.kind s H C l fp) h6)
    (fun s H C l fp => pg_of (g.blk ok.kind s H C l fp) h7) (fun s H C l fp => pts_nil) (fun s H C l fp => he0.e (g.blk ok.kind s H C l fp) h8) (noSet_fold h2) (fun env => noSet_fold h3)
  rw [own_ix2] at P
  exact ⟨_, P, fun σ H Q w => comp2_sim σ H Q w⟩
theorem dvals_chk {i k : Nat} {m : Bool} {sc : Scope} {e : Expr} (h : chk T N (.dvals i k) m sc e = true) : ∃ x y p1 p2 p3 p4 p5 scope pos, e = .ListComp (.Subscript (.Name x p1) (.Name y p2) p3) [⟨.Name y p4, .Name x p5, [], 0⟩] scope pos ∧
      m = false ∧ i ≠ k ∧ blkC N sc scope (ownOf N (.nm k)) = true ∧ N[i]? = some x ∧ visC sc x = true ∧ visC (relS scope sc) x = true ∧ visC (relS scope sc) y = true ∧ chkN N scope k y = true := by
  have h9 : (!m && (match dvC e with
      | some (x, y, scope) => decide (i ≠ k) && blkC N sc scope (ownOf N (.nm k)) && decide (N[i]? = some x) && visC sc x && visC (relS scope sc) x && visC (relS scope sc) y && chkN N scope k y
      | none => false)) = true := by cases e <;> exact h
  clear h
  rw [Bool.and_eq_true] at h9
  obtain ⟨h0, h9⟩ := h9
  split at h9
  · rename_i x y scope q
    obtain ⟨p1, p2, p3, p4, p5, pos, rfl⟩ := dvC_inv q
    simp only [Bool.and_eq_true, decide_eq_true_eq] at h9
    obtain ⟨⟨⟨⟨⟨⟨h1, h2⟩, h3⟩, h4⟩, h5⟩, h6⟩, h7⟩ := h9
    exact ⟨x, y, p1, p2, p3, p4, p5, scope, pos, rfl, by simpa using h0, h1, h2, h3, h4, h5, h6, h7⟩
  · cases h9
theorem vis_pe {L : Lnk} {sc ss : Scope} {X : Cx} {i : Nat} {x : Str} {p : Pos} (g : Good L T cl N sc ss X) (h1 : N[i]? = some x) (h2 : visC sc x = true) : PE X (.Name x p) (tVar i) := by
  simp only [Bool.and_eq_true, Bool.not_eq_true', decide_eq_true_eq, visC, Bool.or_eq_true] at h2
  obtain ⟨⟨h2, h3⟩, h4⟩ := h2
  exact pe_var (i := i) (by rw [g.hN]; exact h1) (by rw [g.hsc]; rcases h2 with (a | a) | a; exact .inl a; exact .inr (.inl a); exact .inr (.inr a)) h3 h4
theorem snd_dvals {i k : Nat} : Snd T cl N (.dvals i k) := by
  refine Snd.plain (te := dvalsE i k) rfl (fun {L m sc ss X e} g h => ?_) (fun {sc e} h => ?_) (fun sc es => by cases es <;> rfl)
  · obtain ⟨x, y, p1, p2, p3, p4, p5, scope, pos, rfl, hm, h1, h2, h3, h4, h5, h6, h7⟩ := dvals_chk h
    have ok := blkOk_by h2
    have h8 := h7
    unfold chkN at h8
    simp only [Bool.and_eq_true, Bool.or_eq_true, decide_eq_true_eq] at h8
    have P := pe_lock (pe_lc (X := X) (own := ownOf N (.nm k)) (pos := pos) (elt := .Subscript (.Name x p1) (.Name y p2) p3) g.calm (by rw [g.hN]; exact g.nd) (pi_keys (tg := .Name y p4) (vis_pe (p := p5) g h3 h4)) (by rw [g.hN, g.hsc]; exact ok)
      (fun s H C l fp => pg_nm (g.blk ok.kind s H C l fp) h7) (fun s H C l fp => pts_nil)
      (fun s H C l fp => pe_ix (ix_dict (by have := (g.blk ok.kind s H C l fp).hu; omega)) (vis_pe (g.blk ok.kind s H C l fp) h3 h5) (vis_pe (g.blk ok.kind s H C l fp) h8.1 h6) (noSlice_plain rfl)) (noSet_fold rfl))
    rw [own_ix] at P
    exact PE.imp P fun σ H Q w => dvals_sim h1 σ H Q w
  · obtain ⟨x, y, p1, p2, p3, p4, p5, scope, pos, rfl, hm, _⟩ := dvals_chk h
    cases hm
theorem snd (T : Tab) : ∀ (cl : CallD) (N : List Str) (c : CE), Snd T cl N c
  | cl, N, .var _ => snd_var
  | cl, N, .cst _ => snd_cst
  | cl, N, .glob _ => snd_glob
  | cl, N, .anil => snd_nil
  | cl, N, .acons a r => snd_cons (snd T cl N a) (snd T cl N r)
  | cl, N, .tup as => snd_tup (snd T cl N as)
  | cl, N, .lst as => snd_lst (snd T cl N as)
  | cl, N, .disp _ as => snd_disp (snd T cl N as)
  | cl, N, .prim _ as => snd_prim (snd T cl N as)
  | cl, N, .meth _ o as => snd_meth (snd T cl N o) (snd T cl N as)
  | cl, N, .call _ as => snd_call (snd T cl N as)
  | cl, N, .ife t a b => snd_ife (snd T cl N t) (snd T cl N a) (snd T cl N b)
  | cl, N, .and_ a b => snd_and (snd T cl N a) (snd T cl N b)
  | cl, N, .or_ a b => snd_or (snd T cl N a) (snd T cl N b)
  | cl, N, .not_ a => snd_not (snd T cl N a)
  | cl, N, .chain _ _ a b c => snd_chain (snd T cl N a) (snd T cl N b) (snd T cl N c)
  | cl, N, .sl2 a b c => snd_sl2 (snd T cl N a) (snd T cl N b) (snd T cl N c)
  | cl, N, .r1 a => snd_r1 (snd T cl N a)
  | cl, N, .r2 a b => snd_r2 (snd T cl N a) (snd T cl N b)
  | cl, N, .comp _ it _ c elt => snd_comp (snd T cl N it) (snd T cl.quiet N c) (snd T cl.quiet N elt)
  | cl, N, .comp2 _ it _ it2 elt => snd_comp2 (snd T cl N it) (snd T cl.quiet N it2) (snd T cl.quiet N elt)
  | cl, N, .dvals _ _ => snd_dvals
end
end Py

namespace Py
open PySem PySem.Spec PyProof.Rows L2

/-! ### statements -/
/-- what a try's one call is for: return f(..), x = f(..), f(..) -/
inductive TryK where
  | ret | set (i : Nat) | expr
inductive CS where
  | nil | seq (s r : CS) | pass | brk | cont | expr (e : CE) | asg (p : Pat) (e : CE) | asgs (is : List Nat) (as : CE) | setIdx (o i e : CE) | aug (i : Nat) (p : Prim) (e : CE)
  | ret (e : CE) | retN | ite (t : CE) (a b : CS) | whil (t : CE) (b : CS) | forr (p : Pat) (it : CE) (b : CS)
  | raise (c : Nat) (e : CE) | tryc (k : TryK) (f : Nat) (as : CE) (hc : Nat) (hs : List (Nat × Bool × D))
/-- x op= y by values -/
def augW (p : Prim) (x y : D) (h : Hd) (Q : PD) : Prop := match p, x, y with
  | .add, .int i, .int j => Q (.int (i + j)) h
  | .sub, .int i, .int j => Q (.int (i - j)) h
  | .mul, .int i, .int j => mulOk i j ∧ Q (.int (i * j)) h
  | .add, .str a, .str b => a.length + b.length ≤ sizeLine ∧ Q (.str (a ++ b)) h
  | .add, .tup a, .tup b => a.length + b.length ≤ sizeLine ∧ Q (.tup (a ++ b)) h
  | .add, .loc a, y => match h[a]?, mutOf h y with
    | some (.lst xs), some ys => xs.length + ys.length ≤ sizeLine ∧ Q (.loc a) (h.set a (.lst (xs ++ ys)))
    | _, _ => False
  | _, _, _ => False
def forW (ok : Hd → Prop) (p : Pat) (body : TSd) (Z : Endd) : List D → Sd → Hd → Prop
  | [], τ, h => ok h ∧ Z.nx τ h
  | x :: xs, τ, h => ok h ∧ bindW p x τ fun τ' => body { Z with nx := forW ok p body Z xs, ct := forW ok p body Z xs, bk := Z.nx } τ' h
def whileW (t : TTd) (body : TSd) : TSd := fun Z τ h => ∃ W : Nat → Sd → Hd → Prop, (∃ m, W m τ h) ∧ ∀ m τ h, W m τ h →
  t τ h fun k h1 => if k = true then body { Z with nx := fun τ' h' => ∃ m', m' < m ∧ W m' τ' h', ct := fun τ' h' => ∃ m', m' < m ∧ W m' τ' h', bk := Z.nx } τ h1 else Z.nx τ h1
def asgS (p : Pat) (e : TEd) : TSd := fun Z τ h => e τ h fun d h1 => mat d h1 fun d' h2 => bindW p d' τ fun τ' => Z.nx τ' h2
def asgsS (is : List Nat) (as : Bool → TAd) : TSd := fun Z τ h => as true τ h fun ds h1 => (ds.length = is.length ∧ ds.length ≤ sizeLine) ∧ Z.nx (setAll τ is ds) h1
def setIdxS (o i e : TEd) : TSd := fun Z τ h => e τ h fun d h1 => mat d h1 fun d' h2 => o τ h2 fun x h3 => i τ h3 fun y h4 => setIdxW x y d' h4 fun h5 => Z.nx τ h5
def augS (i : Nat) (p : Prim) (e : TEd) : TSd := fun Z τ h => match τ[i]? with
  | some (some x) => e τ h fun y h1 => augW p x y h1 fun z h2 => Z.nx (τ.set i (some z)) h2
  | _ => False
def iteS (t : TTd) (a b : TSd) : TSd := fun Z τ h => t τ h fun k h1 => if k = true then a Z τ h1 else b Z τ h1
def forS (p : Pat) (it : TId) (body : TSd) : TSd := fun Z τ h => it τ h fun w h1 => forW w.ok p body Z w.xs τ h1
/-- an except clause: by the class's number, is it caught, what is handed back -/
def exH (cl : CallD) (hs : List (Nat × Bool × D)) (Z : Endd) : XD := fun c h => match hs.lookup c with
  | some (true, d) => Z.rt d h
  | some (false, _) => cl.x c h
  | none => False
def tryK : TryK → Endd → Sd → PD
  | .ret, Z, _ => Z.rt
  | .set i, Z, τ => fun d h => mat d h fun d' h' => Z.nx (τ.set i (some d')) h'
  | .expr, Z, τ => fun _ h => Z.nx τ h
def tryS (cl : CallD) (k : TryK) (f : Nat) (as : Bool → TAd) (hs : List (Nat × Bool × D)) : TSd := fun Z τ h => as true τ h fun ds h1 => cl.c f ds h1 (tryK k Z τ) (exH cl hs Z)
def raiseS (cl : CallD) (c : Nat) (e : TEd) : TSd := fun _ τ h => e τ h fun _ h1 => cl.x c h1
def wpS (cl : CallD) (gl : List (Str × D)) : CS → TSd
  | .nil => fun Z τ h => Z.nx τ h
  | .seq s r => fun Z τ h => wpS cl gl s { Z with nx := wpS cl gl r Z } τ h
  | .pass => fun Z τ h => Z.nx τ h
  | .brk => fun Z τ h => Z.bk τ h
  | .cont => fun Z τ h => Z.ct τ h
  | .expr e => fun Z τ h => (wp cl gl e).e τ h fun _ h1 => Z.nx τ h1
  | .asg p e => asgS p (wp cl gl e).e
  | .asgs is as => asgsS is (wp cl gl as).a
  | .setIdx o i e => setIdxS (wp cl gl o).e (wp cl gl i).e (wp cl gl e).e
  | .aug i p e => augS i p (wp cl gl e).e
  | .ret e => fun Z τ h => (wp cl gl e).e τ h Z.rt
  | .retN => fun Z _ h => Z.rt .non h
  | .ite t a b => iteS (wp cl gl t).t (wpS cl gl a) (wpS cl gl b)
  | .whil t b => whileW (wp cl gl t).t (wpS cl gl b)
  | .forr p it b => forS p (wp cl gl it).i (wpS cl gl b)
  | .raise c e => raiseS cl c (wp cl gl e).e
  | .tryc k f as _ hs => tryS cl k f (wp cl.quiet gl as).a hs

/-! ### the syntax of statements -/
def isComp : Expr → Bool
  | .ListComp _ _ _ _ => true
  | .SetComp _ _ _ _ => true
  | .DictComp _ _ _ _ _ => true
  | _ => false
/-- y = e is stored within the comprehension's frame -/
def swB (sc : Scope) (y : Str) (py : Pos) : Expr → Bool
  | .ListComp _ _ s pos => decide (sc.names.lookup y = some .local) && (py.line == pos.line) && !(s.names.any fun (n, k) => n == y && (k == .local || k == .cell))
  | _ => false
theorem noComp_sw {e : Expr} {t : Option Expr} {l : Nat} {env : Env} (h : isComp e = false) : swapsWith e t l env = pure false := by
  unfold swapsWith
  cases e <;> first | rfl | cases h
theorem noName_sw {e t : Expr} {l : Nat} {env : Env} (h : isName t = none) : swapsWith e (some t) l env = pure false := by
  unfold swapsWith
  cases t <;> first | cases h | skip
  all_goals (cases e <;> rfl)
theorem swB_ok {e : Expr} {y : Str} {py : Pos} {l : Nat} {env : Env} {sc : Scope} (hs : env.scope = sc) (hk : sc.kind = .function) (hc : isComp e = false ∨ ∃ a b c d, e = .ListComp a b c d) : swapsWith e (some (.Name y py)) l env = pure (swB sc y py e) := by
  rcases hc with hc | ⟨a, b, c, d, rfl⟩
  · rw [noComp_sw hc]
    cases e <;> first | rfl | cases hc
  · have hb : env.blockKind = .function := by unfold Env.blockKind; rw [hs, hk]; rfl
    unfold swapsWith swB Env.kindOf
    simp only [hb, hs, Expr.pos]
    by_cases q : sc.names.lookup y = some .local
    · rw [q]; simp
    · have q' : (sc.names.lookup y == some NameKind.local) = false := by simpa using q
      rw [q']; simp [q]
/-- a tuple of names given a written tuple: stored one by one (true), or as any tuple; none: not served -/
def swS (sc : Scope) (ts vs : List Expr) : Option Bool :=
  if !(ts.length == 2 || ts.length == 3) || vs.length != ts.length then some false
  else if vs.any (fun e => !noStar e) then some false
  else
    let line := (ts.head?.map (·.pos.line)).getD 0
    let names := ts.filterMap fun
      | .Name id pos => if sc.names.lookup id == some .local && pos.line == line then some id else none
      | _ => none
    if names.length != ts.length || names.eraseDups.length != names.length then some false
    else if vs.all (foldedForSure 8) then some false
    else if vs.all (constantsAlone 8) then none
    else some true
end Py

namespace Py
open PySem PySem.Spec PyProof.Rows L2
def swNames (sc : Scope) (ts : List Expr) : List Str := ts.filterMap fun
      | .Name id pos => if sc.names.lookup id == some .local && pos.line == (ts.head?.map (·.pos.line)).getD 0 then some id else none
      | _ => none
theorem swS_ok {sc : Scope} {env : Env} {ts vs : List Expr} {k1 k2 : Nat} {p1 p2 : Pos} (hs : env.scope = sc) (hk : sc.kind = .function) {b : Bool} (h : swS sc ts vs = some b) :
    swappedStores [.Tuple ts k1 p1] (.Tuple vs k2 p2) env = pure (if b = true then some (swNames sc ts) else none) := by
  have hb : env.blockKind = .function := by unfold Env.blockKind; rw [hs, hk]; rfl
  have hst : (vs.any fun e => !noStar e) = (vs.any fun | .Starred .. => true | _ => false) := by
    congr 1
    funext e
    cases e <;> rfl
  unfold swappedStores
  simp only [hb, hs, Env.kindOf]
  have e0 : (ScopeKind.function != ScopeKind.function) = false := rfl
  rw [e0, Bool.or_false]
  unfold swS at h
  rw [hst] at h
  dsimp only at h
  split at h
  · rename_i q
    cases h
    exact (if_pos q).trans rfl
  · rename_i q
    refine (if_neg q).trans ?_
    split at h
    · rename_i q2
      cases h
      exact (if_pos q2).trans rfl
    · rename_i q2
      refine (if_neg q2).trans ?_
      split at h
      · rename_i q3
        cases h
        exact (if_pos q3).trans rfl
      · rename_i q3
        refine (if_neg q3).trans ?_
        split at h
        · rename_i q4
          cases h
          exact (if_pos q4).trans rfl
        · rename_i q4
          refine (if_neg q4).trans ?_
          split at h
          · cases h
          · rename_i q5
            cases h
            exact (if_neg q5).trans rfl
end Py

namespace Py
open PySem PySem.Spec PyProof.Rows L2
variable {L : Lnk}

structure SimZ (L : Lnk) (K : PySem.W.Frag) (R : Nat → Addr) (h : Hd) (H : Hp) (P : Endd) (Z : Ends) : Prop where
  nx : ∀ R' h' H' τ' σ', Ext K R h H R' h' H' → HRel K H' R' h' → SRel L K H' R' h'.length τ' σ' → P.nx τ' h' → Z.nx σ' H'
  rt : ∀ R' h' H' d v, Ext K R h H R' h' H' → HRel K H' R' h' → RT K H' R' h'.length H d v → P.rt d h' → Z.rt v H'
  bk : ∀ R' h' H' τ' σ', Ext K R h H R' h' H' → HRel K H' R' h' → SRel L K H' R' h'.length τ' σ' → P.bk τ' h' → Z.bk σ' H'
  ct : ∀ R' h' H' τ' σ', Ext K R h H R' h' H' → HRel K H' R' h' → SRel L K H' R' h'.length τ' σ' → P.ct τ' h' → Z.ct σ' H'
theorem SimZ.on {K : PySem.W.Frag} {R R1 : Nat → Addr} {h h1 : Hd} {H H1 : Hp} {P : Endd} {Z : Ends} (s : SimZ L K R h H P Z) (E : Ext K R h H R1 h1 H1) : SimZ L K R1 h1 H1 P Z :=
  ⟨fun R' h' H' τ' σ' e a b c => s.nx R' h' H' τ' σ' (E.trans e) a b c, fun R' h' H' d v e a b c => s.rt R' h' H' d v (E.trans e) a (b.from fun _ => E.none_of) c,
    fun R' h' H' τ' σ' e a b c => s.bk R' h' H' τ' σ' (E.trans e) a b c, fun R' h' H' τ' σ' e a b c => s.ct R' h' H' τ' σ' (E.trans e) a b c⟩
theorem liftS_mk {K : PySem.W.Frag} {t : TSd} {Z : Ends} {σ : L2.St} {H : Hp} {R : Nat → Addr} {τ : Sd} {h : Hd} {P : Endd} (sr : SRel L K H R h.length τ σ) (hr : HRel K H R h) (w : t P τ h) (s : SimZ L K R h H P Z) : liftS L K t Z σ H :=
  ⟨R, τ, h, P, sr, hr, w, s.nx, s.rt, s.bk, s.ct⟩
theorem liftS_el {K : PySem.W.Frag} {t : TSd} {Z : Ends} {σ : L2.St} {H : Hp} (w : liftS L K t Z σ H) : ∃ R τ h P, SRel L K H R h.length τ σ ∧ HRel K H R h ∧ t P τ h ∧ SimZ L K R h H P Z := by
  obtain ⟨R, τ, h, P, a, b, c, d, e, f, g⟩ := w
  exact ⟨R, τ, h, P, a, b, c, d, e, f, g⟩
section
variable {X : Cx}
theorem ss_nil : PSs X [] (liftS L X.K fun Z τ h => Z.nx τ h) := PSs.imp pss_nil fun Z σ H w => by
  obtain ⟨R, τ, h, P, sr, hr, w, s⟩ := liftS_el w
  exact s.nx R h H τ σ .refl hr sr w
theorem ss_cons {st : Stmt} {sts : List Stmt} {t u : TSd} (h1 : PS X st (liftS L X.K t)) (h2 : PSs X sts (liftS L X.K u)) : PSs X (st :: sts) (liftS L X.K fun Z τ h => t { Z with nx := u Z } τ h) := PSs.imp (pss_cons h1 h2) fun Z σ H w => by
  obtain ⟨R, τ, h, P, sr, hr, w, s⟩ := liftS_el w
  exact liftS_mk (P := { P with nx := u P }) sr hr w ⟨fun R' h' H' τ' σ' E hr' sr' q => liftS_mk sr' hr' q (s.on E), s.rt, s.bk, s.ct⟩
theorem ss_pass {pos : Pos} : PS X (.Pass pos) (liftS L X.K fun Z τ h => Z.nx τ h) := PS.imp ps_pass fun Z σ H w => by
  obtain ⟨R, τ, h, P, sr, hr, w, s⟩ := liftS_el w
  exact s.nx R h H τ σ .refl hr sr w
theorem ss_brk {pos : Pos} : PS X (.Break pos) (liftS L X.K fun Z τ h => Z.bk τ h) := PS.imp ps_break fun Z σ H w => by
  obtain ⟨R, τ, h, P, sr, hr, w, s⟩ := liftS_el w
  exact s.bk R h H τ σ .refl hr sr w
theorem ss_cont {pos : Pos} : PS X (.Continue pos) (liftS L X.K fun Z τ h => Z.ct τ h) := PS.imp ps_continue fun Z σ H w => by
  obtain ⟨R, τ, h, P, sr, hr, w, s⟩ := liftS_el w
  exact s.ct R h H τ σ .refl hr sr w
theorem ss_expr {e : Expr} {te : TEd} {pos : Pos} (he : PE X e (lift L X.K te)) (hc : isComp e = false) : PS X (.Expr e pos) (liftS L X.K fun Z τ h => te τ h fun _ h1 => Z.nx τ h1) := PS.imp (ps_expr he (noComp_sw hc)) fun Z σ H w => by
  obtain ⟨R, τ, h, P, sr, hr, w, s⟩ := liftS_el w
  exact ⟨R, τ, h, _, sr, hr, w, fun R1 h1 H1 d v E1 hr1 rd w1 => s.nx R1 h1 H1 τ σ E1 hr1 (E1.srel sr) w1⟩
theorem ss_ret {e : Expr} {te : TEd} {pos : Pos} (he : PE X e (lift L X.K te)) : PS X (.Return (some e) pos) (liftS L X.K fun Z τ h => te τ h Z.rt) := PS.imp (ps_ret he) fun Z σ H w => by
  obtain ⟨R, τ, h, P, sr, hr, w, s⟩ := liftS_el w
  exact ⟨R, τ, h, _, sr, hr, w, fun R1 h1 H1 d v E1 hr1 rd w1 => s.rt R1 h1 H1 d v E1 hr1 rd w1⟩
theorem ss_retN {pos : Pos} : PS X (.Return none pos) (liftS L X.K fun Z _ h => Z.rt .non h) := PS.imp ps_retN fun Z σ H w => by
  obtain ⟨R, τ, h, P, sr, hr, w, s⟩ := liftS_el w
  exact s.rt R h H .non .non .refl hr (by simp only [RT, R0]) w
theorem ss_if {c : Expr} {a b : List Stmt} {t : TTd} {u1 u2 : TSd} {pos : Pos} (hc : PT X c (liftT L X.K t)) (ha : PSs X a (liftS L X.K u1)) (hb : PSs X b (liftS L X.K u2)) : PS X (.If c a b pos) (liftS L X.K (iteS t u1 u2)) := PS.imp (ps_if hc ha hb) fun Z σ H w => by
  obtain ⟨R, τ, h, P, sr, hr, w, s⟩ := liftS_el w
  refine ⟨R, τ, h, _, sr, hr, w, fun R1 h1 H1 k E1 hr1 w1 => ?_⟩
  cases k with
  | true => rw [if_pos rfl] at w1; exact iteT (liftS_mk (E1.srel sr) hr1 w1 (s.on E1))
  | false => rw [if_neg Bool.false_ne_true] at w1; exact iteF (liftS_mk (E1.srel sr) hr1 w1 (s.on E1))
theorem ss_while {c : Expr} {body : List Stmt} {t : TTd} {u : TSd} {pos : Pos} (hp : PassesOwn (model X.prog X.w) X.A X.env X.xe) (hc : PT X c (liftT L X.K t)) (hb : PSs X body (liftS L X.K u)) : PS X (.While c body [] pos) (liftS L X.K (whileW t u)) := PS.imp (ps_while hp hc hb) fun Z σ H w => by
  obtain ⟨R, τ, h, P, sr, hr, w, s⟩ := liftS_el w
  obtain ⟨W, ⟨m0, w0⟩, turn⟩ := w
  refine ⟨fun m σ' H' => ∃ R' τ' h', Ext X.K R h H R' h' H' ∧ HRel X.K H' R' h' ∧ SRel L X.K H' R' h'.length τ' σ' ∧ W m τ' h', ⟨m0, R, τ, h, .refl, hr, sr, w0⟩, ?_⟩
  rintro m σ1 H1 ⟨R1, τ1, h1, E1, hr1, sr1, w1⟩
  refine ⟨R1, τ1, h1, _, sr1, hr1, turn m τ1 h1 w1, fun R2 h2 H2 k E2 hr2 w2 => ?_⟩
  cases k with
  | true =>
    rw [if_pos rfl] at w2
    refine iteT ⟨_, fun σ' H' q => q, liftS_mk (E2.srel sr1) hr2 w2 ⟨fun R' h' H' τ' σ' E hr' sr' q => ?_, ((s.on E1).on E2).rt, ((s.on E1).on E2).nx, fun R' h' H' τ' σ' E hr' sr' q => ?_⟩⟩
    · obtain ⟨m', hm, q⟩ := q
      exact ⟨m', hm, R', τ', h', (E1.trans E2).trans E, hr', sr', q⟩
    · obtain ⟨m', hm, q⟩ := q
      exact ⟨m', hm, R', τ', h', (E1.trans E2).trans E, hr', sr', q⟩
  | false =>
    rw [if_neg Bool.false_ne_true] at w2
    exact iteF (s.nx R2 h2 H2 τ1 σ1 (E1.trans E2) hr2 (E2.srel sr1) w2)
theorem ss_for {tg iter : Expr} {body : List Stmt} {p : Pat} {t : TId} {u : TSd} {pos : Pos} (hp : PassesOwn (model X.prog X.w) X.A X.env X.xe) (hc : X.calm = true) (hi : PI X tg iter (liftI L X.K t)) (hg : PG X tg (gOf X.K p)) (hb : PSs X body (liftS L X.K u)) (hs : noSet iter = true) :
    PS X (.For tg iter body [] pos) (liftS L X.K (forS p t u)) := PS.imp (ps_for hp hc hi hg hb (noSet_fold hs)) fun Z σ H w => by
  obtain ⟨R, τ, h, P, sr, hr, w, s⟩ := liftS_el w
  refine ⟨R, τ, h, _, sr, hr, w, fun R1 h1 H1 wk J E1 hr1 w1 wlk => ?_⟩
  refine ⟨fun i m σ' H' => m = wk.xs.length - i ∧ i ≤ wk.xs.length ∧ ∃ R' τ' h', Ext X.K R1 h1 H1 R' h' H' ∧ HRel X.K H' R' h' ∧ SRel L X.K H' R' h'.length τ' σ' ∧ forW wk.ok p u P (wk.xs.drop i) τ' h',
    ⟨wk.xs.length, by simp, Nat.zero_le _, R1, τ, h1, .refl, hr1, E1.srel sr, w1⟩, ?_⟩
  rintro i m σ2 H2 ⟨rfl, hi, R2, τ2, h2, E2, hr2, sr2, w2⟩
  by_cases hlt : i < wk.xs.length
  · refine .inr ?_
    rw [List.drop_eq_getElem_cons hlt] at w2
    obtain ⟨ok, w2⟩ := w2
    obtain ⟨wgo, wstop, wyld⟩ := wlk R2 h2 H2 E2 hr2 ok
    refine ⟨wgo i hlt, _, fun σ' H' q => ⟨wk.xs.length - (i + 1), by omega, q⟩, fun x H3 y => ?_⟩
    obtain ⟨d, ed, E3, hr3, rd⟩ := wyld i x H3 hlt y
    rw [List.getElem?_eq_getElem hlt] at ed
    cases ed
    have E13 := (E1.trans E2).trans E3
    refine bind_sim rd (E3.srel sr2) w2 fun τ' σ' s' _ w3 => liftS_mk s' hr3 w3 ⟨fun R' h' H' τ4 σ4 E hr' sr' q => ?_, (s.on E13).rt, (s.on E13).nx, fun R' h' H' τ4 σ4 E hr' sr' q => ?_⟩
    · exact ⟨rfl, hlt, R', τ4, h', (E2.trans E3).trans E, hr', sr', q⟩
    · exact ⟨rfl, hlt, R', τ4, h', (E2.trans E3).trans E, hr', sr', q⟩
  · have e : i = wk.xs.length := by omega
    subst e
    rw [List.drop_eq_nil_of_le (Nat.le_refl _)] at w2
    obtain ⟨ok, w2⟩ := w2
    obtain ⟨wgo, wstop, wyld⟩ := wlk R2 h2 H2 E2 hr2 ok
    exact .inl ⟨wstop _ (Nat.le_refl _), s.nx R2 h2 H2 τ2 σ2 (E1.trans E2) hr2 sr2 w2⟩
/-- a target given a value that gets a place -/
theorem asg_sim {K : PySem.W.Frag} {p : Pat} {te : TEd} {tE : TE} (hT : ∀ σ H Q, lift L K te σ H Q → tE σ H Q) (Z : Ends) (σ : L2.St) (H : Hp) (w : liftS L K (asgS p te) Z σ H) : tAsg tE (gOf K p) Z σ H := by
  obtain ⟨R, τ, h, P, sr, hr, w, s⟩ := liftS_el w
  refine hT σ H _ ⟨R, τ, h, _, sr, hr, w, fun R1 h1 H1 d v E1 hr1 rd w1 => ?_⟩
  obtain ⟨R2, h2, d', E2, hr2, ag, rd', w2⟩ := mat_ok E1 hr1 rd w1
  exact bind_sim rd' (E2.srel sr) w2 fun τ' σ' s' _ w3 => s.nx R2 h2 H1 τ' σ' E2 hr2 s' w3
end
end Py

namespace Py
open PySem PySem.Spec PyProof.Rows L2
variable {L : Lnk}
def isTupE : Expr → Bool
  | .Tuple _ _ _ => true
  | _ => false
def augOp : Prim → Option Operator
  | .add => some .Add | .sub => some .Sub | .mul => some .Mult | _ => none
def compOf : CE → Bool
  | .comp _ _ _ _ _ => true
  | .comp2 _ _ _ _ _ => true
  | _ => false
def asgNm : List Expr → Option Str
  | [.Name x _] => some x
  | _ => none
def asgTp : List Expr → Option (List Expr)
  | [.Tuple ts _ _] => some ts
  | _ => none
def asgC (N : List Str) (sc : Scope) (p : Pat) (e : CE) (ts : List Expr) (v : Expr) : Bool := match p with
  | .nm i => (match asgNm ts with | some x => chkN N sc i x && (!isComp v || compOf e) | none => false)
  | .tp is => (match asgTp ts with | some es => chkNs N sc is es && !isTupE v | none => false)
def asgT : List Expr → Expr → Option (List Expr × List Expr)
  | [.Tuple ts _ _], .Tuple vs _ _ => some (ts, vs)
  | _, _ => none
def parC (sc : Scope) : List Expr → List Expr → Bool
  | [.Name x p, .Name y q], [_, _] => decide (sc.names.lookup x = some .local) && decide (sc.names.lookup y = some .local) && decide (swNames sc [.Name x p, .Name y q] = [x, y])
  | [.Name x p, .Name y q, .Name z r], [_, _, _] => decide (sc.names.lookup x = some .local) && decide (sc.names.lookup y = some .local) && decide (sc.names.lookup z = some .local) && decide (swNames sc [.Name x p, .Name y q, .Name z r] = [x, y, z])
  | _, _ => false
def asgsC (sc : Scope) (ts vs : List Expr) : Bool := match swS sc ts vs with
  | some false => true
  | some true => parC sc ts vs
  | none => false
def subT : List Expr → Option (Expr × Expr)
  | [.Subscript o i _] => some (o, i)
  | _ => none
def slotOf (N : List Str) (n : Str) : Nat := N.findIdx (· == n)
/-- isinstance(n, C) of the caught one, of the class with number c -/
def isiC (T : Tab) (sc : Scope) (c : Nat) (n : Str) : Expr → Option Bool
  | .Call (.Name y _) [.Name m _, .Name z _] [] _ => if y = ("isinstance" : Str) ∧ ("isinstance" : Str) ∈ T.bn ∧ glC sc ("isinstance" : Str) = true ∧ m = n ∧ glC sc z = true ∧ (z == ("__debug__" : Str)) = false ∧ z ≠ "__name__" then (T.xi.find? fun e => e.1 == c && e.2.1 == z).map (·.2.2) else none
  | _ => none
def raiseT : Stmt → Option (Str × Expr)
  | .Raise (some (.Call (.Name x _) [y] [] _)) none _ => some (x, y)
  | _ => none
def tryT : Stmt → Option (List Stmt × Str × Option Str × Expr)
  | .Try body [.ExceptHandler (some (.Name x _)) n [.Return (some e) _] _] [] [] _ => some (body, x, n, e)
  | _ => none
def fnT : Expr → Option (Str × Expr × List Expr)
  | .Call (.Name x _) (e :: es) [] _ => some (x, e, es)
  | _ => none
def nmC (N : List Str) (sc : Scope) : Option Str → Bool
  | none => true
  | some n => decide (N[slotOf N n]? = some n) && decide (sc.names.lookup n = some .local) && !(n == ("__debug__" : Str)) && !(n == ("__classdict__" : Str))
def valC (T : Tab) (sc : Scope) (c : Nat) (d : D) : Option Str → Expr → Bool
  | _, .Constant k _ _ => cstC d k
  | some n, .Call y es kw p => (match isiC T sc c n (.Call y es kw p), d with | some b, .bl k => b == k | _, _ => false)
  | some n, .BoolOp .And [e1, e2] _ => (match isiC T sc c n e1, isiC T sc c n e2, d with | some b, some b2, .bl k => (b && b2) == k | _, _, _ => false)
  | _, _ => false
def fnC (T : Tab) (N : List Str) (f : Nat) (as : CE) (sc : Scope) (v : Expr) : Bool := match fnT v with
  | some (x, e, es) => decide (T.fn[f]? = some x) && glC sc x && !(x == ("__debug__" : Str)) && chkA T N as sc (e :: es)
  | none => false
def tryB (T : Tab) (N : List Str) (f : Nat) (as : CE) (sc : Scope) : TryK → List Stmt → Bool
  | .ret, [.Return (some v) _] => fnC T N f as sc v
  | .set i, [.Assign [.Name y _] v _] => chkN N sc i y && fnC T N f as sc v
  | .expr, [.Expr v _] => fnC T N f as sc v
  | _, _ => false
mutual
def chk1 (T : Tab) (N : List Str) : CS → Scope → Stmt → Bool
  | .pass, _, .Pass _ => true
  | .brk, _, .Break _ => true
  | .cont, _, .Continue _ => true
  | .expr e, sc, .Expr v _ => !isComp v && chk T N e false sc v
  | .asg p e, sc, .Assign ts v _ => asgC N sc p e ts v && chk T N e false sc v
  | .asgs is as, sc, .Assign ts v _ => (match asgT ts v with | some (ts, vs) => chkNs N sc is ts && decide (is.Nodup) && asgsC sc ts vs && chkA T N as sc vs | none => false)
  | .setIdx o i e, sc, .Assign ts v _ => (match subT ts with | some (o', i') => noSlice i' && chk T N o false sc o' && chk T N i false sc i' && chk T N e false sc v | none => false)
  | .aug i p e, sc, .AugAssign (.Name x _) op v _ => chkN N sc i x && decide (augOp p = some op) && chk T N e false sc v
  | .ret e, sc, .Return (some v) _ => chk T N e false sc v
  | .retN, _, .Return none _ => true
  | .ite t a b, sc, .If t' a' b' _ => chk T N t true sc t' && chkB T N a sc a' && chkB T N b sc b'
  | .whil t b, sc, .While t' b' [] _ => chk T N t true sc t' && chkB T N b sc b'
  | .forr p it b, sc, .For tg it' b' [] _ => chkP N sc p tg && noSet it' && chk T N it false sc it' && chkB T N b sc b'
  | .raise c e, sc, st => (match raiseT st with | some (x, y) => decide (T.xc[c]? = some x) && glC sc x && !(x == ("__debug__" : Str)) && noStar y && chk T N e false sc y | none => false)
  | .tryc k f as hc hs, sc, st => (match tryT st with
    | some (body, x, n, e') => tryB T N f as sc k body && decide (T.xc[hc]? = some x) && glC sc x && !(x == ("__debug__" : Str)) && nmC N sc n &&
      hs.all (fun e => decide ((e.1, hc, e.2.1) ∈ T.xs) && (!e.2.1 || valC T sc e.1 e.2.2 n e'))
    | none => false)
  | _, _, _ => false
def chkB (T : Tab) (N : List Str) : CS → Scope → List Stmt → Bool
  | .nil, _, [] => true
  | .seq s r, sc, st :: sts => chk1 T N s sc st && chkB T N r sc sts
  | _, _, _ => false
end
structure Bdy (X : Cx) : Prop where
  ow : PassesOwn (model X.prog X.w) X.A X.env X.xe
  st : X.stack = X.env :: X.outer
  fr : X.env.frame = some X.env.locals
structure SndS (T : Tab) (cl : CallD) (N : List Str) (c : CS) : Prop where
  s : ∀ {L : Lnk} {sc : Scope} {X : Cx} {st : Stmt}, Good L T cl N sc sc X → Bdy X → chk1 T N c sc st = true → PS X st (liftS L X.K (wpS cl T.gl c))
  b : ∀ {L : Lnk} {sc : Scope} {X : Cx} {sts : List Stmt}, Good L T cl N sc sc X → Bdy X → chkB T N c sc sts = true → PSs X sts (liftS L X.K (wpS cl T.gl c))
section
variable {T : Tab} {cl : CallD} {N : List Str}
theorem SndS.one {c : CS} (h : ∀ {L : Lnk} {sc : Scope} {X : Cx} {st : Stmt}, Good L T cl N sc sc X → Bdy X → chk1 T N c sc st = true → PS X st (liftS L X.K (wpS cl T.gl c))) (hb : ∀ sc sts, chkB T N c sc sts = false) : SndS T cl N c :=
  ⟨h, fun g hp q => by rw [hb] at q; cases q⟩
theorem snS_pass : SndS T cl N .pass := SndS.one (fun {L sc X st} g hp h => by
  cases st <;> first | (simp [chk1] at h; done) | exact ss_pass) (fun sc sts => by cases sts <;> rfl)
theorem snS_brk : SndS T cl N .brk := SndS.one (fun {L sc X st} g hp h => by
  cases st <;> first | (simp [chk1] at h; done) | exact ss_brk) (fun sc sts => by cases sts <;> rfl)
theorem snS_cont : SndS T cl N .cont := SndS.one (fun {L sc X st} g hp h => by
  cases st <;> first | (simp [chk1] at h; done) | exact ss_cont) (fun sc sts => by cases sts <;> rfl)
theorem snS_nil : SndS T cl N .nil := ⟨fun {L sc X st} g hp h => by cases st <;> simp [chk1] at h, fun {L sc X sts} g hp h => by
  cases sts with
  | nil => exact ss_nil
  | cons _ _ => simp [chkB] at h⟩
theorem snS_seq {s r : CS} (hs : SndS T cl N s) (hr : SndS T cl N r) : SndS T cl N (.seq s r) := ⟨fun {L sc X st} g hp h => by cases st <;> simp [chk1] at h, fun {L sc X sts} g hp h => by
  cases sts with
  | nil => simp [chkB] at h
  | cons st sts =>
    simp only [chkB, Bool.and_eq_true] at h
    exact ss_cons (t := wpS cl T.gl s) (u := wpS cl T.gl r) (hs.s g hp h.1) (hr.b g hp h.2)⟩
theorem snS_expr {e : CE} : SndS T cl N (.expr e) := SndS.one (fun {L sc X st} g hp h => by
  cases st with
  | Expr v pos =>
    simp only [chk1, Bool.and_eq_true, Bool.not_eq_true'] at h
    exact ss_expr ((snd T cl N e).e g h.2) h.1
  | _ => simp [chk1] at h) (fun sc sts => by cases sts <;> rfl)
theorem snS_ret {e : CE} : SndS T cl N (.ret e) := SndS.one (fun {L sc X st} g hp h => by
  cases st with
  | Return v pos =>
    cases v with
    | none => simp [chk1] at h
    | some v =>
      simp only [chk1] at h
      exact ss_ret ((snd T cl N e).e g h)
  | _ => simp [chk1] at h) (fun sc sts => by cases sts <;> rfl)
theorem snS_retN : SndS T cl N .retN := SndS.one (fun {L sc X st} g hp h => by
  cases st with
  | Return v pos =>
    cases v with
    | none => exact ss_retN
    | some v => simp [chk1] at h
  | _ => simp [chk1] at h) (fun sc sts => by cases sts <;> rfl)
theorem snS_ite {t : CE} {a b : CS} (ha : SndS T cl N a) (hb : SndS T cl N b) : SndS T cl N (.ite t a b) := SndS.one (fun {L sc X st} g hp h => by
  cases st with
  | If t' a' b' pos =>
    simp only [chk1, Bool.and_eq_true] at h
    exact ss_if ((snd T cl N t).t g h.1.1).1 (ha.b g hp h.1.2) (hb.b g hp h.2)
  | _ => simp [chk1] at h) (fun sc sts => by cases sts <;> rfl)
theorem snS_whil {t : CE} {b : CS} (hb : SndS T cl N b) : SndS T cl N (.whil t b) := SndS.one (fun {L sc X st} g hp h => by
  cases st with
  | While t' b' o pos =>
    cases o with
    | nil =>
      simp only [chk1, Bool.and_eq_true] at h
      exact ss_while hp.ow ((snd T cl N t).t g h.1).1 (hb.b g hp h.2)
    | cons _ _ => simp [chk1] at h
  | _ => simp [chk1] at h) (fun sc sts => by cases sts <;> rfl)
theorem snS_forr {p : Pat} {it : CE} {b : CS} (hb : SndS T cl N b) : SndS T cl N (.forr p it b) := SndS.one (fun {L sc X st} g hp h => by
  cases st with
  | For tg it' b' o pos =>
    cases o with
    | nil =>
      simp only [chk1, Bool.and_eq_true] at h
      obtain ⟨⟨⟨h1, h2⟩, h3⟩, h4⟩ := h
      exact ss_for hp.ow g.calm ((snd T cl N it).i g h3) (pg_of g h1) (hb.b g hp h4) h2
    | cons _ _ => simp [chk1] at h
  | _ => simp [chk1] at h) (fun sc sts => by cases sts <;> rfl)
theorem asgNm_inv {ts : List Expr} {x : Str} (h : asgNm ts = some x) : ∃ p, ts = [.Name x p] := by
  unfold asgNm at h
  split at h
  · cases h; exact ⟨_, rfl⟩
  · cases h
theorem asgTp_inv {ts es : List Expr} (h : asgTp ts = some es) : ∃ k p, ts = [.Tuple es k p] := by
  unfold asgTp at h
  split at h
  · cases h; exact ⟨_, _, rfl⟩
  · cases h
theorem asgC_nm {sc : Scope} {i : Nat} {e : CE} {ts : List Expr} {v : Expr} (h : asgC N sc (.nm i) e ts v = true) : ∃ x px, ts = [.Name x px] ∧ chkN N sc i x = true ∧ (isComp v = false ∨ compOf e = true) := by
  unfold asgC at h
  dsimp only at h
  split at h
  · rename_i x q
    obtain ⟨p, rfl⟩ := asgNm_inv q
    simp only [Bool.and_eq_true, Bool.or_eq_true, Bool.not_eq_true'] at h
    exact ⟨_, _, rfl, h.1, h.2⟩
  · cases h
theorem asgC_tp {sc : Scope} {is : List Nat} {e : CE} {ts : List Expr} {v : Expr} (h : asgC N sc (.tp is) e ts v = true) : ∃ es k p, ts = [.Tuple es k p] ∧ chkNs N sc is es = true ∧ isTupE v = false := by
  unfold asgC at h
  dsimp only at h
  split at h
  · rename_i es q
    obtain ⟨k, p, rfl⟩ := asgTp_inv q
    simp only [Bool.and_eq_true, Bool.not_eq_true'] at h
    exact ⟨_, _, _, rfl, h.1, h.2⟩
  · cases h
theorem snS_asg {p : Pat} {e : CE} : SndS T cl N (.asg p e) := SndS.one (fun {L sc X st} g hp h => by
  cases st with
  | Assign ts v pos =>
    simp only [chk1, Bool.and_eq_true] at h
    obtain ⟨h0, h3⟩ := h
    cases p with
    | nm i =>
      obtain ⟨x, px, rfl, h1, h2⟩ := asgC_nm h0
      have h1' := h1
      unfold chkN at h1'
      simp only [Bool.and_eq_true, Bool.or_eq_true, decide_eq_true_eq] at h1'
      have hN : X.N.Nodup := by rw [g.hN]; exact g.nd
      have hl : isComp v = false ∨ ∃ a b c d, v = .ListComp a b c d := by
        rcases h2 with h2 | h2
        · exact .inl h2
        · cases e <;> first | (cases h2; done) | skip
          · obtain ⟨e', tg, iter, ifs, scope, ps, rfl, _⟩ := compInv h3
            exact .inr ⟨_, _, _, _, rfl⟩
          · obtain ⟨e', tg, iter, tg1, iter1, scope, ps, rfl, _⟩ := comp2Inv h3
            exact .inr ⟨_, _, _, _, rfl⟩
      have sw := swB_ok (y := x) (py := px) (l := pos.line) g.hsc g.kind hl
      cases q : swB sc x px v with
      | false =>
        rw [q] at sw
        obtain ⟨a, b⟩ := g.st x h1'.2
        exact PS.imp (ps_set hN (by rw [g.hN]; exact h1'.1) a ((snd T cl N e).e g h3) sw b) fun Z σ H w => asg_sim (p := .nm i) (fun _ _ _ z => z) Z σ H w
      | true =>
        rw [q] at sw
        have hloc : sc.names.lookup x = some .local := by
          unfold swB at q
          split at q
          · simp only [Bool.and_eq_true, decide_eq_true_eq] at q
            exact q.1.1
          · cases q
        have hce : compOf e = true := by
          rcases h2 with h2 | h2
          · unfold swB at q
            split at q
            · cases h2
            · cases q
          · exact h2
        cases e <;> first | (cases hce; done) | skip
        · obtain ⟨tE, P, hE⟩ := ss_setLc (snd T cl N _) (snd T cl.quiet N _) (snd T cl.quiet N _) g h1'.1 hloc sw h3
          exact PS.imp P fun Z σ H w => asg_sim (p := .nm i) hE Z σ H w
        · obtain ⟨tE, P, hE⟩ := ss_setLc2 (snd T cl N _) (snd T cl.quiet N _) (snd T cl.quiet N _) g h1'.1 hloc sw h3
          exact PS.imp P fun Z σ H w => asg_sim (p := .nm i) hE Z σ H w
    | tp is =>
      obtain ⟨es, k, p, rfl, h1, h2⟩ := asgC_tp h0
      have hw : swappedStores [.Tuple es k p] v X.env = pure none := by cases v <;> first | rfl | cases h2
      have hs : swapsWithSole [.Tuple es k p] v pos.line X.env = pure false := noName_sw (t := .Tuple es k p) (l := pos.line) (env := X.env) rfl
      exact PS.imp (ps_asg ((snd T cl N e).e g h3) (pg_of g (p := .tp is) (e := .Tuple es k p) h1) hs hw rfl) fun Z σ H w => asg_sim (p := .tp is) (fun _ _ _ z => z) Z σ H w
  | _ => simp [chk1] at h) (fun sc sts => by cases sts <;> rfl)
theorem asgT_inv {ts : List Expr} {v : Expr} {a b : List Expr} (h : asgT ts v = some (a, b)) : ∃ k p k2 p2, ts = [.Tuple a k p] ∧ v = .Tuple b k2 p2 := by
  unfold asgT at h
  split at h
  · cases h; exact ⟨_, _, _, _, rfl, rfl⟩
  · cases h
theorem subT_inv {ts : List Expr} {a b : Expr} (h : subT ts = some (a, b)) : ∃ p, ts = [.Subscript a b p] := by
  unfold subT at h
  split at h
  · cases h; exact ⟨_, rfl⟩
  · cases h
def rSetLD : TSet := fun o i v H Q => rSetL o i v H Q ∨ rSetD o i v H Q
theorem set_both {X : Cx} (hu : X.A.units + 1 < cLine) : PSet X rSetLD := by
  intro pins s σ H o i v ov iv u Q I ro ri rv h
  rcases h with h | h
  · exact set_list pins s σ H o i v ov iv u Q I ro ri rv h
  · exact set_dict hu pins s σ H o i v ov iv u Q I ro ri rv h
/-- a dict is written -/
theorem put_dct {K : PySem.W.Frag} {R : Nat → Addr} {h : Hd} {H : Hp} {i : Nat} {ks vs : List D} {k : Key} {d : D} {v : V} (hr : HRel K H R h) (hi : i < h.length) (e : h[i]? = some (.dct false ks vs)) (rd : R0 K H R h.length d v) (hl : ks.length < sizeLine) :
    ∃ H', DPut H (R i) (kV k) v H' ∧ Ext K R h H R (h.set i (.dct false (dPut ks vs k d).1 (dPut ks vs k d).2)) H' ∧ HRel K H' R (h.set i (.dct false (dPut ks vs k d).1 (dPut ks vs k d).2)) := by
  have o := hr.obj i _ e
  rcases o with ⟨_, kvs, a, b, c⟩ | ⟨t, _⟩
  · subst b
    obtain ⟨p1, p2⟩ := dPut_rel (k := k) rd c
    refine ⟨_, DPut.k a (by rw [List.length_map] at hl; exact hl), ?_⟩
    have E : Ext K R h H R (h.set i (.dct false (dPut (kvs.map fun p => keyD p.1) vs k d).1 (dPut (kvs.map fun p => keyD p.1) vs k d).2)) (upd H (R i) (.dK (putK kvs k v))) := .put hr hi a True.intro
    refine ⟨E, hr.put hi a True.intro ?_⟩
    exact .inl ⟨rfl, _, upd_same, p1, E.r0s p2⟩
  · cases t
theorem set_sim {K : PySem.W.Frag} {to ti te : TEd} (Z : Ends) (σ : L2.St) (H : Hp) (w : liftS L K (setIdxS to ti te) Z σ H) : tAsg (lift L K te) (gSub (lift L K to) (lift L K ti) rSetLD) Z σ H := by
  obtain ⟨R, τ, h, P, sr, hr, w, s⟩ := liftS_el w
  refine ⟨R, τ, h, _, sr, hr, w, fun R1 h1 H1 d v E1 hr1 rd w1 => ?_⟩
  obtain ⟨R2, h2, d', E2, hr2, ag, rd', w2⟩ := mat_ok E1 hr1 rd w1
  refine ⟨R2, τ, h2, _, E2.srel sr, hr2, w2, fun R3 h3 H3 x u E3 hr3 rx w3 => ⟨R3, τ, h3, _, E3.srel (E2.srel sr), hr3, w3, fun R4 h4 H4 y u2 E4 hr4 ry w4 => ?_⟩⟩
  unfold setIdxW at w4
  split at w4
  · obtain ⟨hi, rfl⟩ := (E4.rt rx).locE
    cases ry.intE
    split at w4
    · rename_i xs ex
      obtain ⟨_, vs, hw, r⟩ := hr4.lst ex
      split at w4
      · rename_i n en
        have E24 := (E2.trans E3).trans E4
        have rv := E4.r0 (E3.r0 rd')
        refine .inl ⟨_, vs, _, n, rfl, rfl, hw, by rw [← R0s_len r]; exact en, ?_⟩
        have E5 : Ext K R4 h4 H4 R4 (h4.set _ (.lst (xs.set n d'))) (upd H4 (R4 _) (.lst (vs.set n v))) := .put hr4 hi hw True.intro
        exact s.nx R4 _ _ τ σ (E24.trans E5) (hr4.put hi hw True.intro ⟨_, upd_same, E5.r0s (R0s_set rv n r)⟩) ((E24.trans E5).srel sr) w4
      · exact w4.elim
    · rename_i ks vs ex
      obtain ⟨H5, dp, E5, hr5⟩ := put_dct (k := .inl _) hr4 hi ex (E4.r0 (E3.r0 rd')) w4.1
      have E24 := (E2.trans E3).trans E4
      exact .inr ⟨_, H5, rfl, dp, s.nx R4 _ _ τ σ (E24.trans E5) hr5 ((E24.trans E5).srel sr) w4.2⟩
    · exact w4.elim
  · obtain ⟨hi, rfl⟩ := (E4.rt rx).locE
    cases ry.strE
    split at w4
    · rename_i ks vs ex
      obtain ⟨H5, dp, E5, hr5⟩ := put_dct (k := .inr _) hr4 hi ex (E4.r0 (E3.r0 rd')) w4.1
      have E24 := (E2.trans E3).trans E4
      exact .inr ⟨_, H5, rfl, dp, s.nx R4 _ _ τ σ (E24.trans E5) hr5 ((E24.trans E5).srel sr) w4.2⟩
    · exact w4.elim
  · exact w4.elim
theorem snS_set {o i e : CE} : SndS T cl N (.setIdx o i e) := SndS.one (fun {L sc X st} g hp h => by
  cases st with
  | Assign ts v pos =>
    simp only [chk1] at h
    split at h
    · rename_i o' i' q
      simp only [Bool.and_eq_true] at h
      obtain ⟨⟨⟨h0, h1⟩, h2⟩, h3⟩ := h
      obtain ⟨p, rfl⟩ := subT_inv q
      have hw : swappedStores [.Subscript o' i' p] v X.env = pure none := by cases v <;> rfl
      have hs : swapsWithSole [.Subscript o' i' p] v pos.line X.env = pure false := noName_sw (t := .Subscript o' i' p) (l := pos.line) (env := X.env) rfl
      refine PS.imp (ps_asg ((snd T cl N e).e g h3) (pg_sub ((snd T cl N o).e g h1) ((snd T cl N i).e g h2) (set_both (by have := g.hu; omega)) ?_) hs hw rfl) fun Z σ H w => set_sim Z σ H w
      intro u
      cases i' <;> first | rfl | cases h0
    · cases h
  | _ => simp [chk1] at h) (fun sc sts => by cases sts <;> rfl)
end
end Py

namespace Py
open PySem PySem.Spec PyProof.Rows L2
variable {L : Lnk}
theorem mem_lk {β : Type} {c : Nat} {v : β} : ∀ {l : List (Nat × β)}, l.lookup c = some v → (c, v) ∈ l
  | [], h => by cases h
  | (a, b) :: l, h => by
    rw [List.lookup_cons] at h
    cases q : (c == a) with
    | true =>
      rw [q] at h
      have e := beq_iff_eq.mp q
      subst e
      cases h
      exact List.mem_cons_self
    | false =>
      rw [q] at h
      exact List.mem_cons_of_mem _ (mem_lk h)
theorem raiseT_inv {st : Stmt} {x : Str} {y : Expr} (h : raiseT st = some (x, y)) : ∃ q p pos, st = .Raise (some (.Call (.Name x q) [y] [] p)) none pos := by
  unfold raiseT at h
  split at h
  · cases h; exact ⟨_, _, _, rfl⟩
  · cases h
theorem tryT_inv {st : Stmt} {b : List Stmt} {x : Str} {n : Option Str} {e : Expr} (h : tryT st = some (b, x, n, e)) : ∃ np rp p pos, st = .Try b [.ExceptHandler (some (.Name x np)) n [.Return (some e) rp] p] [] [] pos := by
  unfold tryT at h
  split at h
  · cases h; exact ⟨_, _, _, _, rfl⟩
  · cases h
theorem fnT_inv {v : Expr} {x : Str} {e : Expr} {es : List Expr} (h : fnT v = some (x, e, es)) : ∃ p pos, v = .Call (.Name x p) (e :: es) [] pos := by
  unfold fnT at h
  split at h
  · cases h; exact ⟨_, _, rfl⟩
  · cases h
theorem Good.try {T : Tab} {cl : CallD} {N : List Str} {sc ss : Scope} {X : Cx} (g : Good L T cl N sc ss X) (pn : List (Addr × Obj)) (xe : Value → Shared → Prop) : Good L.quiet T cl.quiet N sc ss (X.tr pn xe) :=
  ⟨g.hN, g.nd, g.hsc, g.kind, g.calm, g.st, g.hu, g.gd, g.bn, g.ex, g.gl, g.fn, g.xc, g.xs, g.xi, rfl, takes0⟩
section
variable {T : Tab} {cl : CallD} {N : List Str}
theorem snS_raise {c : Nat} {e : CE} : SndS T cl N (.raise c e) := SndS.one (fun {L sc X st} g hp h => by
  simp only [chk1] at h
  split at h
  · rename_i x y q
    obtain ⟨q, p, pos, rfl⟩ := raiseT_inv q
    simp only [Bool.and_eq_true, Bool.not_eq_true', decide_eq_true_eq, glC] at h
    obtain ⟨⟨⟨⟨h1, h2⟩, h3⟩, h4⟩, h5⟩ := h
    obtain ⟨C, ev, hm, xP, kP, bP, tP⟩ := (g.xc c x h1).ex
    refine PS.imp (ps_raise g.calm g.tk (SkE.pmk_own1 PySem.F.excBase_ValueError xP hm kP (raises_own bP tP) (by unfold Gl Env.kindOf; rw [g.hsc]; exact h2) ((snd T cl N e).e g h5) (star_cons h4) h3)) fun Z σ H w => ?_
    obtain ⟨R, τ, h, P, sr, hr, w, s⟩ := liftS_el w
    refine ⟨R, τ, h, _, sr, hr, w, fun R1 h1 H1 d v E1 hr1 rd w1 => ?_⟩
    have z := sr.xp h rfl R1 h1 H1 c E1 hr1 (by rw [g.lx]; exact w1)
    rw [ev] at z
    exact z
  · cases h) (fun sc sts => by cases sts <;> rfl)

/-! ### try: one call, except C (as n): return .. -/
/-- the call within the try, told what is wanted of exceptions -/
def teW (L : Lnk) (K : PySem.W.Frag) (c : CallX) (f : Nat) (as : Bool → TAd) (W : WX) : TE := fun σ H Q => liftA L.quiet K (as true) σ H fun vs H1 => spD L.cls K c f vs H1 Q (WE W σ)
theorem fn_pe {L : Lnk} {sc : Scope} {X : Cx} {f : Nat} {as : CE} {v : Expr} (g : Good L T cl N sc sc X) (h : fnC T N f as sc v = true) {W : WX} {pn : List (Addr × Obj)} {xe : Value → Shared → Prop} (tk : Takes (X.tr pn xe) W) :
    PE (X.tr pn xe) v (teW L X.K cl.c f (wp cl.quiet T.gl as).a W) := by
  unfold fnC at h
  split at h
  · rename_i x e es q
    obtain ⟨p, pos, rfl⟩ := fnT_inv q
    simp only [Bool.and_eq_true, Bool.not_eq_true', decide_eq_true_eq, glC] at h
    obtain ⟨⟨⟨h1, h2⟩, h3⟩, h4⟩ := h
    obtain ⟨ha, hs⟩ := (snd T cl.quiet N as).a (g.try pn xe) h4
    obtain ⟨fa, fd, ps, k, F, hr, hm, hk, hb⟩ := g.fn f x h1
    have hs' := hs
    rw [List.all_cons, Bool.and_eq_true] at hs'
    exact pe_callG (X := X.tr pn xe) (E := WE W) F hr g.gd (by unfold Gl Env.kindOf; show X.env.scope.names.lookup x = _; rw [g.hsc]; exact h2) hm hk hb (fun σ => passAt tk σ) (args_ok hs ha) h3 (star_cons hs'.1) (star_any hs'.2)
  · cases h
theorem fn_nocomp {f : Nat} {as : CE} {sc : Scope} {v : Expr} (h : fnC T N f as sc v = true) : isComp v = false := by
  unfold fnC at h
  split at h
  · rename_i q
    obtain ⟨p, pos, rfl⟩ := fnT_inv q
    rfl
  · cases h
def tTry : TryK → TE → TS
  | .ret, te => tRet te
  | .set i, te => tAsg te (gName i)
  | .expr, te => tDrop te
theorem try_body {L : Lnk} {sc : Scope} {X : Cx} {f : Nat} {as : CE} {k : TryK} {body : List Stmt} (g : Good L T cl N sc sc X) (h : tryB T N f as sc k body = true) {W : WX} {pn : List (Addr × Obj)} {xe : Value → Shared → Prop} (tk : Takes (X.tr pn xe) W) :
    PSs (X.tr pn xe) body (tSeq (tTry k (teW L X.K cl.c f (wp cl.quiet T.gl as).a W)) tNext) := by
  unfold tryB at h
  split at h
  · exact pss_cons (ps_ret (fn_pe g h tk)) pss_nil
  · rename_i i y py v pos
    simp only [Bool.and_eq_true] at h
    obtain ⟨h0, h⟩ := h
    unfold chkN at h0
    simp only [Bool.and_eq_true, Bool.or_eq_true, decide_eq_true_eq] at h0
    obtain ⟨a, b⟩ := g.st y h0.2
    exact pss_cons (ps_set (X := X.tr pn xe) (by rw [show (X.tr pn xe).N = N from g.hN]; exact g.nd) (by rw [show (X.tr pn xe).N = N from g.hN]; exact h0.1) a (fn_pe g h tk) (by
      have := fn_nocomp h
      exact noComp_sw this) b) pss_nil
  · exact pss_cons (ps_expr (fn_pe g h tk) (noComp_sw (fn_nocomp h))) pss_nil
  · cases h
theorem try_sim {L : Lnk} {K : PySem.W.Frag} {cl : CallD} {k : TryK} {f : Nat} {as : Bool → TAd} {hs : List (Nat × Bool × D)} {W : WX} {Z : Ends} {σ : L2.St} {H : Hp} {R : Nat → Addr} {τ : Sd} {h : Hd} {P : Endd}
    (sr : SRel L K H R h.length τ σ) (hr : HRel K H R h) (w : tryS cl k f as hs P τ h) (s : SimZ L K R h H P Z) (hW : ∀ R' h' H' c, Ext K R h H R' h' H' → HRel K H' R' h' → exH cl hs P c h' → W (L.cls c) none σ H') :
    tSeq (tTry k (teW L K cl.c f as W)) tNext Z σ H := by
  have key : ∀ {Q : VK}, (∀ R1 h1 H1, Ext K R h H R1 h1 H1 → Post K R1 h1 H1 (tryK k P τ) Q) → teW L K cl.c f as W σ H Q := fun {Q} hp => by
    refine ⟨R, τ, h, _, sr.quiet, hr, w, fun R1 h1 H1 ds vs E1 hr1 rs w1 => ⟨R1, h1, ds, _, _, rs, hr1, w1, hp R1 h1 H1 E1, ?_⟩⟩
    exact fun g hg R' h' H' c E hr' q => hW R' h' H' c (E1.trans (E.relen hg.symm)) hr' q
  cases k with
  | ret => exact key fun R1 h1 H1 E1 R' h' H' d v E hr' rt q => (s.on E1).rt R' h' H' d v E hr' rt q
  | set i =>
    refine key fun R1 h1 H1 E1 R' h' H' d v E hr' rt q => ?_
    have q : mat d h' fun d' h' => P.nx (τ.set i (some d')) h' := q
    obtain ⟨R2, h2, d', E2, hr2, ag, rd', w2⟩ := mat_ok E hr' rt q
    exact (s.on E1).nx R2 h2 H' _ _ E2 hr2 ((E2.srel (E1.srel sr)).set rd') w2
  | expr => exact key fun R1 h1 H1 E1 R' h' H' d v E hr' rt q => (s.on E1).nx R' h' H' τ σ E hr' (E.srel (E1.srel sr)) q
/-- what the clause hands back -/
def PSuf (X : Cx) (e : Expr) (io : Option Nat) (a : Addr) (cls : Value) (v : V) : Prop :=
  ∀ oe pn, Zc cls none oe → (∃ vs, oe.data = .fields vs) → PE (X.suite a ((a, oe) :: pn)) e (fun σ H Q => (∀ i, io = some i → σ[i]? = some (some (.ref a))) ∧ Q v H)
def tSuf (X : Cx) (e : Expr) (io : Option Nat) (a : Addr) (cls : Value) (dd : Option Addr) : TS := fun D σ H => ∃ v, dd = none ∧ PSuf X e io a cls v ∧ (∀ i, io = some i → i < σ.length → σ[i]? = some (some (.ref a))) ∧ D.rt v H
theorem suf_ok {X : Cx} {e : Expr} {io : Option Nat} {rp : Pos} (hi : ∀ i, io = some i → i < X.N.length) (a : Addr) (oe : Obj) (cls : Value) (d : Option Addr) (pn : List (Addr × Obj)) (hz : Zc cls d oe) (hf : ∃ vs, oe.data = .fields vs) :
    PSs (X.suite a ((a, oe) :: pn)) [.Return (some e) rp] (tSuf X e io a cls d) := by
  refine ⟨fun pins s σ H D I ⟨v, hd, pe, hi2, q⟩ => ?_⟩
  subst hd
  have hl : σ.length = X.N.length := I.len
  exact (pss_cons (ps_ret (pe oe pn hz hf)) pss_nil).run pins s σ H D I ⟨fun i e => hi2 i e (by rw [hl]; exact hi i e), q⟩
theorem isi_ok {L : Lnk} {sc : Scope} {X : Cx} {c i : Nat} {n : Str} {e : Expr} {b : Bool} (g : Good L T cl N sc sc X) (hN : N[i]? = some n) (hl : sc.names.lookup n = some .local) (hd1 : (n == ("__debug__" : Str)) = false) (hd2 : (n == ("__classdict__" : Str)) = false) (h : isiC T sc c n e = some b) (a : Addr) :
    PSuf X e (some i) a (L.cls c) (.bl b) := by
  intro oe pn hz hf
  unfold isiC at h
  split at h
  · rename_i y py m pm z pz pos
    split at h
    · rename_i hc
      obtain ⟨rfl, h1, h2, rfl, h3, h4, h5⟩ := hc
      cases q : T.xi.find? (fun e => e.1 == c && e.2.1 == z) with
      | none => rw [q] at h; cases h
      | some r =>
        rw [q] at h
        obtain ⟨c', z', b'⟩ := r
        cases h
        have k := List.find?_some q
        simp only [Bool.and_eq_true, beq_iff_eq] at k
        obtain ⟨C, cv, ec, hC, hv, hk⟩ := g.xi _ _ _ (List.mem_of_find?_eq_some q)
        rw [k.1] at ec
        rw [k.2] at hv
        rw [ec] at hz
        have gl : ∀ {x : Str}, sc.names.lookup x = some .globalImplicit → Gl (X.suite a ((a, oe) :: pn)) x := fun {x} hx => by unfold Gl Env.kindOf; show X.env.scope.names.lookup x = _; rw [g.hsc]; exact hx
        have pv : PE (X.suite a ((a, oe) :: pn)) (.Name m pm) (tVar i) := pe_var (by show X.N[i]? = _; rw [g.hN]; exact hN) (.inl (by show X.env.scope.names.lookup m = _; rw [g.hsc]; exact hl)) hd1 hd2
        have pz : ∃ cV, PE (X.suite a ((a, oe) :: pn)) (.Name z pz) (tC cV) ∧ ∀ u, RelV cV u → u = cv := by
          simp only [glC, decide_eq_true_eq] at h3
          rcases hv with ⟨C2, rfl, hm⟩ | ⟨id, rfl, hm, hb⟩
          · exact ⟨.ref C2, pe_glob (gl h3) hm rfl h4, fun u hu => hu⟩
          · exact ⟨.ty id, pe_bltn (gl h3) hm hb rfl h5 h4, fun u hu => hu⟩
        obtain ⟨cV, pz, hcv⟩ := pz
        simp only [glC, decide_eq_true_eq] at h2
        exact PE.imp (pe_callB (X := X.suite a ((a, oe) :: pn)) (r := rIsE X.K C a) (call_isE hC hz hf) (gl h2) (g.bn _ h1) (by decide +kernel) (pa_cons pv (pa_cons pz pa_nil rfl) rfl) (by decide) (by decide) rfl rfl) fun σ H Q ⟨w1, w2⟩ => ⟨.ref a, w1 i rfl, cV, cv, b', rfl, hcv, hk, w2⟩
    · cases h
  · cases h
theorem val_ok {L : Lnk} {sc : Scope} {X : Cx} {c : Nat} {n : Option Str} {e : Expr} {d : D} (g : Good L T cl N sc sc X) (hn : nmC N sc n = true) (h : valC T sc c d n e = true) (a : Addr) :
    ∃ v, (∀ (K : PySem.W.Frag) (H : Hp) (R : Nat → Addr) (m : Nat) (G : Hp), RT K H R m G d v) ∧ PSuf X e (n.map (slotOf N)) a (L.cls c) v := by
  unfold valC at h
  split at h
  · unfold cstC at h
    split at h
    · exact ⟨.non, fun _ _ _ _ _ => by simp only [RT, R0], fun oe pn _ _ => PE.imp pe_non fun σ H Q w => w.2⟩
    · have h := beq_iff_eq.mp h; subst h
      exact ⟨_, fun _ _ _ _ _ => by simp only [RT, R0], fun oe pn _ _ => PE.imp pe_bl fun σ H Q w => w.2⟩
    · have h := of_decide_eq_true h; subst h
      exact ⟨_, fun _ _ _ _ _ => by simp only [RT, R0], fun oe pn _ _ => PE.imp pe_int fun σ H Q w => w.2⟩
    · have h := of_decide_eq_true h; subst h
      exact ⟨_, fun _ _ _ _ _ => by simp only [RT, R0], fun oe pn _ _ => PE.imp pe_str fun σ H Q w => w.2⟩
    · cases h
  · rename_i n y es kw p
    split at h
    · rename_i b k q
      have h := beq_iff_eq.mp h; subst h
      simp only [nmC, Bool.and_eq_true, decide_eq_true_eq, Bool.not_eq_true'] at hn
      exact ⟨.bl b, fun _ _ _ _ _ => by simp only [RT, R0], isi_ok g hn.1.1.1 hn.1.1.2 hn.1.2 hn.2 q a⟩
    · cases h
  · rename_i n e1 e2 p
    split at h
    · rename_i b b2 k q1 q2
      have h := beq_iff_eq.mp h; subst h
      simp only [nmC, Bool.and_eq_true, decide_eq_true_eq, Bool.not_eq_true'] at hn
      refine ⟨.bl (b && b2), fun _ _ _ _ _ => by simp only [RT, R0], fun oe pn hz hf => ?_⟩
      have p1 := isi_ok g hn.1.1.1 hn.1.1.2 hn.1.2 hn.2 q1 a oe pn hz hf
      have p2 := isi_ok g hn.1.1.1 hn.1.1.2 hn.1.2 hn.2 q2 a oe pn hz hf
      refine PE.imp (pe_and p1 (pe_one p2)) fun σ H Q ⟨w1, w2⟩ => ⟨w1, b, rfl, ?_⟩
      cases b with
      | true => exact iteT ⟨w1, w2⟩
      | false => exact iteF w2
    · cases h
  · cases h
theorem snS_tryc {k : TryK} {f : Nat} {as : CE} {hc : Nat} {hs : List (Nat × Bool × D)} : SndS T cl N (.tryc k f as hc hs) := SndS.one (fun {L sc X st} g hp h => by
  simp only [chk1] at h
  split at h
  · rename_i body x n e q
    obtain ⟨np, rp, p, pos, rfl⟩ := tryT_inv q
    simp only [Bool.and_eq_true, Bool.not_eq_true', decide_eq_true_eq, glC] at h
    obtain ⟨⟨⟨⟨⟨h1, h2⟩, h3⟩, h4⟩, h5⟩, h6⟩ := h
    obtain ⟨C, ev, hm, xP, kP, bP, tP⟩ := (g.xc hc x h2).ex
    have hnm : Names X x (.ref C) := ⟨by unfold Gl Env.kindOf; rw [g.hsc]; exact h3, h4, .inl hm⟩
    have hN : X.N.Nodup := by rw [g.hN]; exact g.nd
    have all : ∀ c b d, hs.lookup c = some (b, d) → PySem.W.exmOne X.K (L.cls c) (.ref C) = some b ∧ (b = true → valC T sc c d n e = true) := fun c b d hl => by
      have hm := mem_lk hl
      have z := List.all_eq_true.mp h6 _ hm
      simp only [Bool.and_eq_true, decide_eq_true_eq, Bool.or_eq_true, Bool.not_eq_true'] at z
      refine ⟨by rw [← ev]; exact g.xs _ _ _ z.1, fun e => ?_⟩
      rcases z.2 with z | z
      · rw [e] at z; cases z
      · exact z
    cases n with
    | none =>
      refine PS.imp (ps_try_only hp.st hp.fr hnm g.tk (fun W pn xe tk _ => try_body g h1 tk) (fun a oe cls d pn hz hf => suf_ok (io := none) (fun _ z => nomatch z) a oe cls d pn hz hf)) fun Z σ H w => ?_
      obtain ⟨R, τ, h, P, sr, hr, w, s⟩ := liftS_el w
      refine try_sim sr hr w s fun R' h' H' c E hr' q => ?_
      unfold exH at q
      split at q
      · rename_i d hl
        obtain ⟨a1, a2⟩ := all _ _ _ hl
        refine ⟨true, a1, fun _ a ha => ?_, fun z => absurd z (by decide)⟩
        obtain ⟨v, rt, pe⟩ := val_ok g h5 (a2 rfl) a
        exact ⟨v, rfl, pe, fun _ z => (nomatch z), s.rt R' h' H' d v E hr' (rt _ _ _ _ _) q⟩
      · rename_i d hl
        obtain ⟨a1, a2⟩ := all _ _ _ hl
        exact ⟨false, a1, fun z => absurd z (by decide), fun _ => sr.xp h rfl R' h' H' c E hr' (by rw [g.lx]; exact q)⟩
      · exact q.elim
    | some n =>
      have h5' := h5
      simp only [nmC, Bool.and_eq_true, decide_eq_true_eq, Bool.not_eq_true'] at h5'
      have hNn : X.N[slotOf N n]? = some n := by rw [g.hN]; exact h5'.1.1.1
      have hk : X.env.kindOf n = some .local := by unfold Env.kindOf; rw [g.hsc]; exact h5'.1.1.2
      refine PS.imp (ps_try_as hp.st hp.fr hN hNn hk hnm g.tk (fun W pn xe tk _ => try_body g h1 tk) (fun a oe cls d pn hz hf => suf_ok (io := some (slotOf N n)) (fun i z => by cases z; exact (List.getElem?_eq_some_iff.mp hNn).1) a oe cls d pn hz hf)) fun Z σ H w => ?_
      obtain ⟨R, τ, h, P, sr, hr, w, s⟩ := liftS_el w
      refine try_sim sr hr w s fun R' h' H' c E hr' q => ?_
      unfold exH at q
      split at q
      · rename_i d hl
        obtain ⟨a1, a2⟩ := all _ _ _ hl
        refine ⟨true, a1, fun _ a ha => ?_, fun z => absurd z (by decide)⟩
        obtain ⟨v, rt, pe⟩ := val_ok g h5 (a2 rfl) a
        refine ⟨v, rfl, pe, fun i z hi => ?_, s.rt R' h' H' d v E hr' (rt _ _ _ _ _) q⟩
        cases z
        exact List.getElem?_set_self (by simpa using hi)
      · rename_i d hl
        obtain ⟨a1, a2⟩ := all _ _ _ hl
        exact ⟨false, a1, fun z => absurd z (by decide), fun _ => sr.xp h rfl R' h' H' c E hr' (by rw [g.lx]; exact q)⟩
      · exact q.elim
  · cases h) (fun sc sts => by cases sts <;> rfl)
end
end Py

namespace Py
open PySem PySem.Spec PyProof.Rows L2
variable {L : Lnk}
section
variable {T : Tab} {cl : CallD} {N : List Str}
theorem tup_sim {K : PySem.W.Frag} {is : List Nat} {as : CE} (Z : Ends) (σ : L2.St) (H : Hp) (w : liftS L K (asgsS is (wp cl T.gl as).a) Z σ H) : tAsg (tTup (liftA L K ((wp cl T.gl as).a true))) (gTup K is.length (gAll is)) Z σ H := by
  obtain ⟨R, τ, h, P, sr, hr, w, s⟩ := liftS_el w
  refine ⟨R, τ, h, _, sr, hr, w, fun R1 h1 H1 ds vs E1 hr1 rs w1 => ?_⟩
  obtain ⟨⟨hl, hz⟩, w1⟩ := w1
  refine ⟨by rw [← R0s_len rs]; exact hz, fun p hp => ?_⟩
  have E2 : Ext K R1 h1 H1 R1 h1 (upd H1 p (.tup vs)) := .laid hp
  refine ⟨p, vs, rfl, .inl (.inl upd_same), by rw [← R0s_len rs]; exact hl, ?_⟩
  exact bind_all (E2.r0s rs) ((E1.trans E2).srel sr) hl (fun i hi => hi) fun σ' s' _ => s.nx R1 h1 _ _ σ' (E1.trans E2) (hr1.laid hp) s' w1
theorem parC_inv {sc : Scope} {ts vs : List Expr} (h : parC sc ts vs = true) :
    (∃ x p y q a b, ts = [.Name x p, .Name y q] ∧ vs = [a, b] ∧ sc.names.lookup x = some .local ∧ sc.names.lookup y = some .local ∧ swNames sc ts = [x, y]) ∨
    (∃ x p y q z r a b c, ts = [.Name x p, .Name y q, .Name z r] ∧ vs = [a, b, c] ∧ sc.names.lookup x = some .local ∧ sc.names.lookup y = some .local ∧ sc.names.lookup z = some .local ∧ swNames sc ts = [x, y, z]) := by
  unfold parC at h
  split at h
  · simp only [Bool.and_eq_true, decide_eq_true_eq] at h
    exact .inl ⟨_, _, _, _, _, _, rfl, rfl, h.1.1, h.1.2, h.2⟩
  · simp only [Bool.and_eq_true, decide_eq_true_eq] at h
    exact .inr ⟨_, _, _, _, _, _, _, _, _, rfl, rfl, h.1.1.1, h.1.1.2, h.1.2, h.2⟩
  · cases h
theorem chkN_at {sc : Scope} {i : Nat} {x : Str} {p : Pos} (h : chkE1 N sc i (.Name x p) = true) : N[i]? = some x := by
  obtain ⟨y, q, e, h1⟩ := chkE1_ok h
  cases e
  unfold chkN at h1
  simp only [Bool.and_eq_true, decide_eq_true_eq] at h1
  exact h1.1
theorem snS_asgs {is : List Nat} {as : CE} : SndS T cl N (.asgs is as) := SndS.one (fun {L sc X st} g hp h => by
  cases st with
  | Assign ts v pos =>
    simp only [chk1] at h
    split at h
    · rename_i ts' vs q
      obtain ⟨k, p, k2, p2, rfl, rfl⟩ := asgT_inv q
      simp only [Bool.and_eq_true, decide_eq_true_eq] at h
      obtain ⟨⟨⟨h1, h2⟩, h3⟩, h4⟩ := h
      obtain ⟨ha, hs⟩ := (snd T cl N as).a g h4
      have hN : X.N.Nodup := by rw [g.hN]; exact g.nd
      have hsw : swapsWithSole [.Tuple ts' k p] (.Tuple vs k2 p2) pos.line X.env = pure false := noName_sw (e := .Tuple vs k2 p2) (t := .Tuple ts' k p) (l := pos.line) (env := X.env) rfl
      unfold asgsC at h3
      split at h3
      · rename_i qs
        have hw := swS_ok (env := X.env) (k1 := k) (k2 := k2) (p1 := p) (p2 := p2) g.hsc g.kind qs
        exact PS.imp (ps_asg (pe_tup (args_ok hs ha)) (pg_of g (p := .tp is) (e := .Tuple ts' k p) h1) hsw hw rfl) fun Z σ H w => tup_sim Z σ H w
      · rename_i qs
        have hw := swS_ok (env := X.env) (k1 := k) (k2 := k2) (p1 := p) (p2 := p2) g.hsc g.kind qs
        rw [if_pos rfl] at hw
        rcases parC_inv h3 with ⟨x, px, y, py, a, b, rfl, rfl, lx, ly, en⟩ | ⟨x, px, y, py, z, pz, a, b, c, rfl, rfl, lx, ly, lz, en⟩
        · rw [en] at hw
          match is, h1, h2 with
          | [i, j], h1, h2 =>
            unfold chkNs chkNs at h1
            simp only [Bool.and_eq_true] at h1
            have nij : i ≠ j := by simpa using h2
            have n1 := chkN_at h1.1
            have n2 := chkN_at h1.2.1
            rw [← g.hN] at n1 n2
            refine PS.imp (ps_par (i := i) (j := j) g.calm hN n1 n2 nij (by rw [g.hsc]; exact lx) (by rw [g.hsc]; exact ly) (args_ok hs ha) hw hsw) fun Z σ H w => ?_
            obtain ⟨R, τ, h, P, sr, hr, w, s⟩ := liftS_el w
            refine ⟨R, τ, h, _, sr, hr, w, fun R1 h1 H1 ds vs E1 hr1 rs w1 => ?_⟩
            obtain ⟨⟨hl, _⟩, w1⟩ := w1
            match ds, hl, rs, w1 with
            | [d1, d2], hl, rs, w1 =>
              simp only [R0s] at rs
              obtain ⟨v1, _, rfl, r1, v2, _, rfl, r2, rfl⟩ := rs
              exact ⟨v1, v2, rfl, s.nx R1 h1 H1 _ _ E1 hr1 (((E1.srel sr).set r1).set r2) w1⟩
            | [], hl, _, _ => cases hl
            | [_], hl, _, _ => cases hl
            | _ :: _ :: _ :: _, hl, _, _ => cases hl
          | [], h1, _ => cases h1
          | [_], h1, _ => simp [chkNs] at h1
          | _ :: _ :: _ :: _, h1, _ => simp [chkNs] at h1
        · rw [en] at hw
          match is, h1, h2 with
          | [i, j, l], h1, h2 =>
            unfold chkNs chkNs chkNs at h1
            simp only [Bool.and_eq_true] at h1
            have nij : (¬ i = j ∧ ¬ i = l) ∧ ¬ j = l := by simpa using h2
            have n1 := chkN_at h1.1
            have n2 := chkN_at h1.2.1
            have n3 := chkN_at h1.2.2.1
            rw [← g.hN] at n1 n2 n3
            refine PS.imp (ps_par3 (i := i) (j := j) (l := l) g.calm hN n1 n2 n3 nij.1.1 nij.1.2 nij.2 (by rw [g.hsc]; exact lx) (by rw [g.hsc]; exact ly) (by rw [g.hsc]; exact lz) (args_ok hs ha) hw hsw) fun Z σ H w => ?_
            obtain ⟨R, τ, h, P, sr, hr, w, s⟩ := liftS_el w
            refine ⟨R, τ, h, _, sr, hr, w, fun R1 h1 H1 ds vs E1 hr1 rs w1 => ?_⟩
            obtain ⟨⟨hl, _⟩, w1⟩ := w1
            match ds, hl, rs, w1 with
            | [d1, d2, d3], hl, rs, w1 =>
              simp only [R0s] at rs
              obtain ⟨v1, _, rfl, r1, v2, _, rfl, r2, v3, _, rfl, r3, rfl⟩ := rs
              exact ⟨v1, v2, v3, rfl, s.nx R1 h1 H1 _ _ E1 hr1 ((((E1.srel sr).set r1).set r2).set r3) w1⟩
            | [], hl, _, _ => cases hl
            | [_], hl, _, _ => cases hl
            | [_, _], hl, _, _ => cases hl
            | _ :: _ :: _ :: _ :: _, hl, _, _ => cases hl
          | [], h1, _ => cases h1
          | [_], h1, _ => simp [chkNs] at h1
          | [_, _], h1, _ => simp [chkNs] at h1
          | _ :: _ :: _ :: _ :: _, h1, _ => simp [chkNs] at h1
      · cases h3
    · cases h
  | _ => simp [chk1] at h) (fun sc sts => by cases sts <;> rfl)

/-! ### name op= e -/
def ipD (K : PySem.W.Frag) (p : Prim) : V → V → Hp → VK → Prop := fun x y H Q => match p with
  | .add => rI0 (fun i j => .int (i + j)) x y H Q ∨ rExt2 x y H Q ∨ (∃ i j, x = .str i ∧ y = .str j ∧ i.length + j.length ≤ sizeLine ∧ Q (.str (i ++ j)) H) ∨ rCatA K x y H Q
  | .sub => rI0 (fun i j => .int (i - j)) x y H Q
  | .mul => rI CMul (fun i j => .int (i * j)) x y H Q ∨ rI CMulW (fun i j => .int (i * j)) x y H Q
  | _ => False
theorem ipD_ok {X : Cx} {p : Prim} {op : Operator} (h : augOp p = some op) : PIp X op (ipD X.K p) := by
  cases p <;> first | (cases h; done) | skip
  · cases h; exact iop_add.or (iop_ext.or (iop_add_str.or iop_cat))
  · cases h; exact iop_sub
  · cases h; exact iop_mul.or iop_mulW2
theorem snS_aug {i : Nat} {p : Prim} {e : CE} : SndS T cl N (.aug i p e) := SndS.one (fun {L sc X st} g hp h => by
  cases st with
  | AugAssign t op v pos =>
    cases t with
    | Name x px =>
      simp only [chk1, Bool.and_eq_true, decide_eq_true_eq] at h
      obtain ⟨⟨h1, h2⟩, h3⟩ := h
      unfold chkN at h1
      simp only [Bool.and_eq_true, Bool.or_eq_true, decide_eq_true_eq] at h1
      obtain ⟨a, b⟩ := g.st x h1.2
      refine PS.imp (ps_aug (by rw [g.hN]; exact g.nd) (by rw [g.hN]; exact h1.1) a ((snd T cl N e).e g h3) (ipD_ok h2) b) fun Z σ H w => ?_
      obtain ⟨R, τ, h, P, sr, hr, w, s⟩ := liftS_el w
      unfold wpS augS at w
      split at w
      · rename_i d ed
        obtain ⟨u, eu, ru⟩ := sr.at_ i d ed
        refine ⟨u, eu, R, τ, h, _, sr, hr, w, fun R1 h1 H1 y vy E1 hr1 ry w1 => ?_⟩
        have ru1 := E1.r0 ru
        have fin : ∀ {z : D} {vz : V}, R0 X.K H1 R1 h1.length z vz → P.nx (τ.set i (some z)) h1 → Z.nx (σ.set i (some vz)) H1 := fun {z vz} rz q => s.nx R1 h1 H1 _ _ E1 hr1 ((E1.srel sr).set rz) q
        unfold augW at w1
        split at w1
        · simp only [R0] at ru1; subst ru1; cases ry.intE
          exact .inl ⟨_, _, rfl, rfl, fin (by simp only [R0]) w1⟩
        · simp only [R0] at ru1; subst ru1; cases ry.intE
          exact ⟨_, _, rfl, rfl, fin (by simp only [R0]) w1⟩
        · simp only [R0] at ru1; subst ru1; cases ry.intE
          obtain ⟨c | c, w1⟩ := w1
          · exact .inl ⟨_, _, rfl, rfl, c, fin (by simp only [R0]) w1⟩
          · exact .inr ⟨_, _, rfl, rfl, c, fin (by simp only [R0]) w1⟩
        · simp only [R0] at ru1; subst ru1; cases ry.strE
          exact .inr (.inr (.inl ⟨_, _, rfl, rfl, w1.1, fin (by simp only [R0]) w1.2⟩))
        · rename_i as bs _
          obtain ⟨a, vs, rfl, ha, ra⟩ := RT.tup (RT.of (G := H1) ru1)
          obtain ⟨b, us, rfl, hb, rb⟩ := ry.tup
          refine .inr (.inr (.inr ⟨a, b, vs, us, rfl, rfl, ha, hb, by rw [← R0s_len ra, ← R0s_len rb]; exact w1.1, fun e => ?_, fun e1 e2 => ?_, fun e1 e2 q hq => ?_⟩))
          · have e' := (R0s_nil_iff ra).mp e
            subst e'
            exact fin (z := .tup bs) (by simp only [R0]; exact ⟨b, us, rfl, hb, rb⟩) (by simpa using w1.2)
          · have e' := (R0s_nil_iff rb).mp e2
            subst e'
            exact fin (z := .tup as) (by simp only [R0]; exact ⟨a, vs, rfl, ha, ra⟩) (by simpa using w1.2)
          · have E : Ext X.K R1 h1 H1 R1 h1 (upd H1 q (.tup (vs ++ us))) := .laid hq
            exact s.nx R1 h1 _ _ _ (E1.trans E) (hr1.laid hq) (((E1.trans E).srel sr).set (by simp only [R0]; exact ⟨q, _, rfl, .inl (.inl upd_same), E.r0s (R0s_append ra rb)⟩)) w1.2
        · split at w1
          · rename_i xs ys e1 e2
            simp only [R0] at ru1
            obtain ⟨hi, rfl⟩ := ru1
            obtain ⟨_, vs, hw, r⟩ := hr1.lst e1
            obtain ⟨b, ws, rfl, hb, rb⟩ := ry.mlst hr1 e2
            refine .inr (.inl ⟨_, b, vs, ws, rfl, rfl, hw, hb, by rw [← R0s_len r, ← R0s_len rb]; exact w1.1, ?_⟩)
            have E2 : Ext X.K R1 h1 H1 R1 (h1.set _ (.lst (xs ++ ys))) (upd H1 (R1 _) (.lst (vs ++ ws))) := .put hr1 hi hw True.intro
            exact s.nx R1 _ _ _ _ (E1.trans E2) (hr1.put hi hw True.intro ⟨_, upd_same, E2.r0s (R0s_append r rb)⟩) (((E1.trans E2).srel sr).set (E2.r0 (d := .loc _) (show R0 X.K H1 R1 h1.length (.loc _) _ from by simp only [R0]; exact ⟨hi, trivial⟩))) w1.2
          · exact w1.elim
        · exact w1.elim
      · exact w.elim
    | _ => simp [chk1] at h
  | _ => simp [chk1] at h) (fun sc sts => by cases sts <;> rfl)
theorem sndS (T : Tab) (cl : CallD) (N : List Str) : ∀ c : CS, SndS T cl N c
  | .nil => snS_nil
  | .seq s r => snS_seq (sndS T cl N s) (sndS T cl N r)
  | .pass => snS_pass
  | .brk => snS_brk
  | .cont => snS_cont
  | .expr _ => snS_expr
  | .asg _ _ => snS_asg
  | .asgs _ _ => snS_asgs
  | .setIdx _ _ _ => snS_set
  | .aug _ _ _ => snS_aug
  | .ret _ => snS_ret
  | .retN => snS_retN
  | .ite _ a b => snS_ite (sndS T cl N a) (sndS T cl N b)
  | .whil _ b => snS_whil (sndS T cl N b)
  | .forr _ _ b => snS_forr (sndS T cl N b)
  | .raise _ _ => snS_raise
  | .tryc _ _ _ _ _ => snS_tryc
end
end Py

namespace Py
open PySem PySem.Spec PyProof.Rows L2
variable {L : Lnk}

/-! ### defs -/
structure FD where
  name : Str
  ps : List Str
  N : List Str
  st : Stmt
  body : CS
def startD (N : List Str) (args : List D) : Sd := args.map some ++ List.replicate (N.length - args.length) none
/-- what stood is as it was, or holds no new place -/
def gcOK (h h' : Hd) : Prop := h.length ≤ h'.length ∧ ∀ i o, i < h.length → h'[i]? = some o → h[i]? = some o ∨ o.clean h.length
/-- a call's end: what the def made may be forgotten; a list that it made may be handed back as new -/
def Gc (h : Hd) (v : D) (h' : Hd) (Q : PD) : Prop := Q v h' ∨ (v.clean h.length ∧ gcOK h h' ∧ Q v (h'.take h.length)) ∨
  (∃ k xs, v = .loc k ∧ h.length ≤ k ∧ h'[k]? = some (.lst xs) ∧ D.cleans h.length xs ∧ gcOK h h' ∧ Q (.tl xs) (h'.take h.length))
def endZ (h : Hd) (Q : PD) : Endd := ⟨fun _ h' => Gc h .non h' Q, fun v h' => Gc h v h' Q, fun _ _ => False, fun _ _ => False⟩
/-- an exception leaves: what the def made may be forgotten -/
def gcX (h : Hd) (x : XD) : XD := fun c h' => x c h' ∨ (gcOK h h' ∧ x c (h'.take h.length))
def wpCall (gl : List (Str × D)) (F : List FD) : Nat → CallX
  | 0 => fun _ _ _ _ _ => False
  | d + 1 => fun f args h Q x => match F[f]? with
    | some c => args.length = c.ps.length ∧ wpS ⟨wpCall gl F d, gcX h x⟩ gl c.body (endZ h Q) (startD c.N args) h
    | none => False
mutual
theorem clean_of {K : PySem.W.Frag} {H : Hp} {R : Nat → Addr} {n : Nat} : ∀ (d : D) (v : V), R0 K H R n d v → d.clean n
  | .non, _, _ => trivial
  | .bl _, _, _ => trivial
  | .int _, _, _ => trivial
  | .str _, _, _ => trivial
  | .tup ds, v, h => by
    simp only [R0] at h
    obtain ⟨a, vs, _, _, h⟩ := h
    simp only [D.clean]
    exact cleans_of ds vs h
  | .loc i, v, h => by
    simp only [R0] at h
    simp only [D.clean]
    exact h.1
  | .tl _, _, h => by simp only [R0] at h
  | .td _ _ _, _, h => by simp only [R0] at h
  | .rl ds, v, h => by
    simp only [R0] at h
    obtain ⟨a, vs, _, _, h⟩ := h
    simp only [D.clean]
    exact cleans_of ds vs h
theorem cleans_of {K : PySem.W.Frag} {H : Hp} {R : Nat → Addr} {n : Nat} : ∀ (ds : List D) (vs : List V), R0s K H R n ds vs → D.cleans n ds
  | [], _, _ => trivial
  | d :: ds, vs, h => by
    simp only [R0s] at h
    obtain ⟨v, us, _, h1, h2⟩ := h
    simp only [D.cleans]
    exact ⟨clean_of d v h1, cleans_of ds us h2⟩
end
section
variable {K : PySem.W.Frag} {R R' : Nat → Addr} {h h' : Hd} {H H' : Hp}
theorem Ext.take (E : Ext K R h H R' h' H') : Ext K R h H R' (h'.take h.length) H' where
  len := by rw [List.length_take]; exact Nat.le_min.mpr ⟨Nat.le_refl _, E.len⟩
  agr := E.agr
  fresh := fun i a b => by rw [List.length_take] at b; omega
  frame := E.frame
  stay := E.stay
  tup := E.tup
  frz := E.frz
theorem HRel.take (hr0 : HRel K H R h) (hr : HRel K H' R' h') (g : gcOK h h') : HRel K H' R' (h'.take h.length) := by
  have hl : (h'.take h.length).length = h.length := by rw [List.length_take]; exact Nat.min_eq_left g.1
  refine ⟨fun i j a b e => hr.inj i j (by rw [hl] at a; exact Nat.lt_of_lt_of_le a g.1) (by rw [hl] at b; exact Nat.lt_of_lt_of_le b g.1) e, fun i o e => ?_⟩
  have hi : i < h.length := by rw [← hl]; exact (List.getElem?_eq_some_iff.mp e).1
  rw [List.getElem?_take_of_lt hi] at e
  have x := hr.obj i o e
  have c : o.clean h.length := by
    rcases g.2 i o hi e with z | z
    · have y := hr0.obj i o z
      cases o with
      | lst ds => obtain ⟨vs, _, r⟩ := y; exact cleans_of _ _ r
      | dct tk ks ws => rcases y with ⟨_, kvs, _, _, r⟩ | ⟨_, kvs, _, _, r⟩ <;> exact cleans_of _ _ r
      | ins c fs => exact y.elim
    · exact z
  rw [hl]
  cases o with
  | lst ds => obtain ⟨vs, a, r⟩ := x; exact ⟨vs, a, R0s_clean _ _ c r⟩
  | dct tk ks ws =>
    rcases x with ⟨t, kvs, a, b, r⟩ | ⟨t, kvs, a, b, r⟩
    · exact .inl ⟨t, kvs, a, b, R0s_clean _ _ c r⟩
    · exact .inr ⟨t, kvs, a, b, R0s_clean _ _ c r⟩
  | ins c fs => exact x.elim
theorem gc_ok {P : PD} {Q : VK} {d : D} {v : V} (hr0 : HRel K H R h) (post : Post K R h H P Q) (E : Ext K R h H R' h' H') (hr : HRel K H' R' h') (rt : RT K H' R' h'.length H d v) (g : Gc h d h' P) : Q v H' := by
  rcases g with g | ⟨c, g, q⟩ | ⟨k, xs, rfl, hk, ek, c, g, q⟩
  · exact post R' h' H' d v E hr rt g
  · have hl : (h'.take h.length).length = h.length := by rw [List.length_take]; exact Nat.min_eq_left g.1
    refine post R' _ H' d v E.take (hr0.take hr g) ?_ q
    rw [hl]
    cases d with
    | tl ds =>
      obtain ⟨a, vs, e1, n, z, r, ne⟩ := rt
      exact ⟨a, vs, e1, n, z, R0s_clean _ _ (by simpa only [D.clean] using c) r, fun i hi => ne i (Nat.lt_of_lt_of_le hi E.len)⟩
    | td tk ks ws =>
      obtain ⟨a, e1, n, z, ne⟩ := rt
      simp only [D.clean] at c
      refine ⟨a, e1, n, ?_, fun i hi => ne i (Nat.lt_of_lt_of_le hi E.len)⟩
      rcases z with ⟨t, kvs, a, b, r⟩ | ⟨t, kvs, a, b, r⟩
      · exact .inl ⟨t, kvs, a, b, R0s_clean _ _ c.2 r⟩
      · exact .inr ⟨t, kvs, a, b, R0s_clean _ _ c.2 r⟩
    | _ => exact R0_clean (n := h'.length) _ _ c rt
  · have hl : (h'.take h.length).length = h.length := by rw [List.length_take]; exact Nat.min_eq_left g.1
    obtain ⟨hi, rfl⟩ := rt.locE
    obtain ⟨_, vs, hw, r⟩ := hr.lst ek
    refine post R' _ H' (.tl xs) _ E.take (hr0.take hr g) ?_ q
    rw [hl]
    exact ⟨_, vs, rfl, E.fresh k hk hi, hw, R0s_clean _ _ c r, fun i hi2 z => by
      have := hr.inj i k (Nat.lt_of_lt_of_le hi2 E.len) hi z
      omega⟩
theorem start_rel {N : List Str} {ds : List D} {vs : List V} {n : Nat} (r : R0s K H R n ds vs) (xp : XPost L K H R n) : SRel L K H R n (startD N ds) (L2.start N vs) := by
  have hl := R0s_len r
  refine ⟨by unfold startD L2.start; simp [hl], fun i d e => ?_, xp⟩
  unfold startD at e
  by_cases hi : i < ds.length
  · rw [List.getElem?_append_left (by simpa using hi), List.getElem?_map] at e
    cases q : ds[i]? with
    | none => rw [q] at e; cases e
    | some d' =>
      rw [q] at e
      cases e
      obtain ⟨v, ev, rv⟩ := R0s_get r q
      refine ⟨v, ?_, rv⟩
      unfold L2.start
      rw [List.getElem?_append_left (by simp; omega), List.getElem?_map, ev]
      rfl
  · rw [List.getElem?_append_right (by simpa using hi), List.getElem?_replicate] at e
    split at e <;> cases e
end

/-! ### every def keeps its promise -/
/-- what the top has left -/
structure Top (T : Tab) (F : List FD) (cls : Nat → Value) (K : PySem.W.Frag) (mg : Str → Option Value) : Prop where
  bn : ∀ x ∈ T.bn, mg x = none
  ex : ∀ x id, T.ex.lookup x = some id → mg x = some (.builtin id)
  gl : ∀ x d, (x, d) ∈ T.gl → ∃ u v, mg x = some u ∧ RelV v u ∧ ∀ H R n, R0 K H R n d v
  fn : ∀ c ∈ F, ∃ fa fd, Fun K c.name c.name c.st fa fd ∧ mg c.name = some (.ref fa) ∧ Binds K fd c.ps []
  xc : ∀ c x, T.xc[c]? = some x → ExC K mg x (cls c)
  xs : ∀ c k b, (c, k, b) ∈ T.xs → PySem.W.exmOne K (cls c) (cls k) = some b
  xi : ∀ c x b, (c, x, b) ∈ T.xi → XIs K mg (cls c) x b
/-- what is read off the text -/
structure Txts (T : Tab) (F : List FD) : Prop where
  names : T.fn = F.map (·.name)
  sc : ∀ c ∈ F, FnScope c.N c.ps (defScope c.st)
  chk : ∀ c ∈ F, chkB T c.N c.body (defScope c.st) (defBody c.st) = true
theorem xpost_gc {K : PySem.W.Frag} {R : Nat → Addr} {h : Hd} {H : Hp} {x : XD} {E : XK} {cls : Nat → Value} (hr0 : HRel K H R h) (xp : XPost ⟨x, E, cls⟩ K H R h.length) : XPost ⟨gcX h x, E, cls⟩ K H R h.length := by
  intro g hg R' h' H' c E1 hr q
  have E2 := E1.relen (g := h) hg.symm
  rcases q with q | ⟨g, q⟩
  · exact xp h rfl R' h' H' c E2 hr q
  · exact xp h rfl R' _ H' c E2.take (hr0.take hr g) q
theorem fns_ok {P : Program} {w : World} {cls : Nat → Value} {K : PySem.W.Frag} {mg : Str → Option Value} {base : Heap} {T : Tab} {F : List FD} (tx : Txts T F) (tp : Top T F cls K mg) : ∀ (d f : Nat) (c : FD) (fa : Addr) (fd : FuncData), F[f]? = some c → Fun K c.name c.name c.st fa fd →
    FnG P w K mg base d fa fd c.ps (spD cls K (wpCall T.gl F d) f)
  | 0, f, c, fa, fd, hf, FF => ⟨fun vs H Q E ⟨_, _, _, _, _, _, _, z, _⟩ => z.elim, fun _ _ _ _ _ _ _ _ _ _ _ _ _ _ ⟨_, _, _, _, _, _, _, z, _⟩ => z.elim⟩
  | d + 1, f, c, fa, fd, hf, FF => by
    have hm : c ∈ F := List.mem_of_getElem? hf
    have S := tx.sc c hm
    refine funG FF S (fun vs H Q E h => ?_) (fun cdv A outer s H vs Q E hroom hgd h => ?_)
    · obtain ⟨R, h, ds, P0, x, r, hr, z, _⟩ := h
      rw [← R0s_len r]
      have z : (match F[f]? with | some c => ds.length = c.ps.length ∧ wpS ⟨wpCall T.gl F d, gcX h x⟩ T.gl c.body (endZ h P0) (startD c.N ds) h | none => False) := z
      rw [hf] at z
      exact z.1
    · obtain ⟨R, hh, ds, P0, x, r, hr, z, post, xp⟩ := h
      have z : (match F[f]? with | some c => ds.length = c.ps.length ∧ wpS ⟨wpCall T.gl F d, gcX hh x⟩ T.gl c.body (endZ hh P0) (startD c.N ds) hh | none => False) := z
      rw [hf] at z
      refine ⟨_, (sndS T ⟨wpCall T.gl F d, gcX hh x⟩ c.N c.body).b (L := ⟨gcX hh x, E, cls⟩) (sc := defScope c.st) ?_ ⟨passes_of rfl, rfl, rfl⟩ (tx.chk c hm), liftS_mk (start_rel r (xpost_gc hr xp)) hr z.2 ⟨fun R' h' H' τ' σ' E hr' _ g => ?_, fun R' h' H' dd v E hr' rt g => ?_, fun _ _ _ _ _ _ _ _ g => g.elim, fun _ _ _ _ _ _ _ _ g => g.elim⟩⟩
      · refine ⟨rfl, S.nd, rfl, S.kind, rfl, fun x hx => ⟨hx, .inl rfl⟩, hroom.units, hgd, tp.bn, tp.ex, tp.gl, fun g x hx => ?_, tp.xc, tp.xs, tp.xi, rfl, takes_of rfl rfl rfl rfl⟩
        rw [tx.names, List.getElem?_map] at hx
        cases q : F[g]? with
        | none => rw [q] at hx; cases hx
        | some c2 =>
          rw [q] at hx
          cases hx
          obtain ⟨fa2, fd2, FF2, hmg, hb⟩ := tp.fn c2 (List.mem_of_getElem? q)
          exact ⟨fa2, fd2, c2.ps, d, fns_ok tx tp d g c2 fa2 fd2 q FF2, hroom, hmg, FF2.kp, hb⟩
      · exact gc_ok (d := .non) (v := .non) hr post E hr' (by simp only [RT, R0]) g
      · exact gc_ok hr post E hr' rt g
/-- the law's promise, from its reading at the script -/
theorem law_sp {cls : Nat → Value} {K : PySem.W.Frag} {gl : List (Str × D)} {F : List FD} {d f : Nat} {H : Hp} {a : Addr} {ns : List Int} (hO : Only H) (hS : SqL K H a (ns.map V.int)) (h : wpCall gl F d f [.rl (ns.map D.int)] [] (fun v _ => v = .bl true) noX) :
    spD cls K (wpCall gl F d) f [.ref a] H (fun v _ => v = .bl true) fun _ _ _ => False := by
  refine ⟨fun _ => 0, [], [.rl (ns.map D.int)], _, _, ?_, ⟨fun i j hi _ _ => absurd hi (Nat.not_lt_zero _), fun i o e => by simp at e⟩, h, fun R' h' H' d v E hr rt q => ?_, fun _ _ _ _ _ _ _ _ z => z.elim⟩
  · simp only [R0s, R0]
    refine ⟨.ref a, [], rfl, ⟨a, ns.map V.int, rfl, ?_, ?_⟩, rfl⟩
    · rcases hS with (hS | ⟨o, hS⟩) | hS
      · rcases hO a with z | ⟨o, xs, z⟩
        · rw [z] at hS; cases hS
        · rw [z] at hS; cases hS
      · exact .inl ⟨o, hS⟩
      · exact .inr hS
    · clear hS h
      induction ns with
      | nil => simp [R0s]
      | cons n ns ih => simp only [List.map_cons, R0s, R0]; exact ⟨_, _, rfl, rfl, ih⟩
  · have q : d = .bl true := q
    subst q
    exact rt.blE
end Py

namespace Py
open PySem PySem.Spec PyProof.Rows L2

/-! ### rules of reading -/
theorem mem_of_lookup {α β : Type} [BEq α] [LawfulBEq α] {a : α} {b : β} : ∀ {l : List (α × β)}, l.lookup a = some b → (a, b) ∈ l
  | (c, d) :: l, h => by
    simp only [List.lookup] at h
    split at h
    · rename_i q; cases h; have := eq_of_beq q; subst this; exact List.mem_cons_self
    · exact List.mem_cons_of_mem _ (mem_of_lookup h)
theorem wx_pack : ∃ W : CallD → List (Str × D) → CE → RD, W = wp := ⟨wp, rfl⟩
noncomputable def wx : CallD → List (Str × D) → CE → RD := Classical.choose wx_pack
theorem wx_eq : wx = wp := Classical.choose_spec wx_pack
theorem ws_pack : ∃ W : CallD → List (Str × D) → CS → TSd, W = wpS := ⟨wpS, rfl⟩
noncomputable def ws : CallD → List (Str × D) → CS → TSd := Classical.choose ws_pack
theorem ws_eq : ws = wpS := Classical.choose_spec ws_pack
theorem px_pack : ∃ W : Prim → List D → Hd → PD → Prop, W = wpP := ⟨wpP, rfl⟩
noncomputable def px : Prim → List D → Hd → PD → Prop := Classical.choose px_pack
theorem px_eq : px = wpP := Classical.choose_spec px_pack
theorem call_of {gl : List (Str × D)} {F : List FD} {d f : Nat} {c : FD} {args : List D} {h : Hd} {Q : PD} {x : XD} (hf : F[f]? = some c) (hl : args.length = c.ps.length) (b : ws ⟨wpCall gl F d, gcX h x⟩ gl c.body (endZ h Q) (startD c.N args) h) : wpCall gl F (d + 1) f args h Q x := by
  rw [ws_eq] at b
  show (match F[f]? with | some c => args.length = c.ps.length ∧ wpS ⟨wpCall gl F d, gcX h x⟩ gl c.body (endZ h Q) (startD c.N args) h | none => False)
  rw [hf]
  exact ⟨hl, b⟩
@[simp ↓] theorem quiet_mk {c : CallX} {x : XD} : CallD.quiet ⟨c, x⟩ = ⟨c, noX⟩ := rfl
theorem gx_same {h h' : Hd} {c : Nat} {x : XD} (q : x c h') : gcX h x c h' := .inl q
theorem gc_same {h h' : Hd} {v : D} {Q : PD} (q : Q v h') : Gc h v h' Q := .inl q
def atQ (o : Option D) (Q : PD) (h : Hd) : Prop := match o with
  | some v => Q v h
  | none => False
def lstQ (o : Option DO) (k : List D → Prop) : Prop := match o with
  | some (.lst xs) => k xs
  | _ => False
@[simp ↓] theorem lstQ_def {o : Option DO} {k : List D → Prop} : lstQ o k = (match o with | some (.lst xs) => k xs | _ => False) := rfl
@[simp] theorem lstQ_some {xs : List D} {k : List D → Prop} : lstQ (some (.lst xs)) k = k xs := rfl
def natQ (o : Option Nat) (k : Nat → Prop) : Prop := match o with
  | some n => k n
  | none => False
@[simp ↓] theorem natQ_def {o : Option Nat} {k : Nat → Prop} : natQ o k = (match o with | some n => k n | none => False) := rfl
@[simp] theorem natQ_some {n : Nat} {k : Nat → Prop} : natQ (some n) k = k n := rfl
@[simp ↓] theorem atQ_def {o : Option D} {Q : PD} {h : Hd} : atQ o Q h = (match o with | some v => Q v h | none => False) := rfl
def blQ (d : D) (k : Bool → Prop) : Prop := match d with
  | .bl b => k b
  | _ => False
theorem blQ_eq {d : D} {k : Bool → Prop} : (∃ b, d = .bl b ∧ k b) = blQ d k := by
  cases d <;> simp [blQ]
@[simp ↓] theorem blQ_bl {b : Bool} {k : Bool → Prop} : blQ (.bl b) k = k b := rfl
@[simp] theorem atQ_some {v : D} {Q : PD} {h : Hd} : atQ (some v) Q h = Q v h := rfl
theorem str_beq {a b : List Char} (h : a ≠ b) : (String.ofList a == String.ofList b) = false := beq_eq_false_iff_ne.mpr fun e => h (String.ofList_inj.mp e)
theorem sq_int_bool : (("int" : String) == "bool") = false := str_beq (by decide)
theorem sq_int_str : (("int" : String) == "str") = false := str_beq (by decide)
theorem sq_int_tuple : (("int" : String) == "tuple") = false := str_beq (by decide)
theorem sq_int_list : (("int" : String) == "list") = false := str_beq (by decide)
theorem sq_int_dict : (("int" : String) == "dict") = false := str_beq (by decide)
theorem sq_int_NoneType : (("int" : String) == "NoneType") = false := str_beq (by decide)
theorem sq_int_int : (("int" : String) == "int") = true := beq_self_eq_true _
theorem sq_bool_int : (("bool" : String) == "int") = false := str_beq (by decide)
theorem sq_bool_str : (("bool" : String) == "str") = false := str_beq (by decide)
theorem sq_bool_tuple : (("bool" : String) == "tuple") = false := str_beq (by decide)
theorem sq_bool_list : (("bool" : String) == "list") = false := str_beq (by decide)
theorem sq_bool_dict : (("bool" : String) == "dict") = false := str_beq (by decide)
theorem sq_bool_NoneType : (("bool" : String) == "NoneType") = false := str_beq (by decide)
theorem sq_bool_bool : (("bool" : String) == "bool") = true := beq_self_eq_true _
theorem sq_str_int : (("str" : String) == "int") = false := str_beq (by decide)
theorem sq_str_bool : (("str" : String) == "bool") = false := str_beq (by decide)
theorem sq_str_tuple : (("str" : String) == "tuple") = false := str_beq (by decide)
theorem sq_str_list : (("str" : String) == "list") = false := str_beq (by decide)
theorem sq_str_dict : (("str" : String) == "dict") = false := str_beq (by decide)
theorem sq_str_NoneType : (("str" : String) == "NoneType") = false := str_beq (by decide)
theorem sq_str_str : (("str" : String) == "str") = true := beq_self_eq_true _
theorem sq_tuple_int : (("tuple" : String) == "int") = false := str_beq (by decide)
theorem sq_tuple_bool : (("tuple" : String) == "bool") = false := str_beq (by decide)
theorem sq_tuple_str : (("tuple" : String) == "str") = false := str_beq (by decide)
theorem sq_tuple_list : (("tuple" : String) == "list") = false := str_beq (by decide)
theorem sq_tuple_dict : (("tuple" : String) == "dict") = false := str_beq (by decide)
theorem sq_tuple_NoneType : (("tuple" : String) == "NoneType") = false := str_beq (by decide)
theorem sq_tuple_tuple : (("tuple" : String) == "tuple") = true := beq_self_eq_true _
theorem sq_list_int : (("list" : String) == "int") = false := str_beq (by decide)
theorem sq_list_bool : (("list" : String) == "bool") = false := str_beq (by decide)
theorem sq_list_str : (("list" : String) == "str") = false := str_beq (by decide)
theorem sq_list_tuple : (("list" : String) == "tuple") = false := str_beq (by decide)
theorem sq_list_dict : (("list" : String) == "dict") = false := str_beq (by decide)
theorem sq_list_NoneType : (("list" : String) == "NoneType") = false := str_beq (by decide)
theorem sq_list_list : (("list" : String) == "list") = true := beq_self_eq_true _
theorem sq_dict_int : (("dict" : String) == "int") = false := str_beq (by decide)
theorem sq_dict_bool : (("dict" : String) == "bool") = false := str_beq (by decide)
theorem sq_dict_str : (("dict" : String) == "str") = false := str_beq (by decide)
theorem sq_dict_tuple : (("dict" : String) == "tuple") = false := str_beq (by decide)
theorem sq_dict_list : (("dict" : String) == "list") = false := str_beq (by decide)
theorem sq_dict_NoneType : (("dict" : String) == "NoneType") = false := str_beq (by decide)
theorem sq_dict_dict : (("dict" : String) == "dict") = true := beq_self_eq_true _
/-- what follows, kept shut -/
noncomputable def nxt (cl : CallD) (gl : List (Str × D)) (c : CS) : TSd := ws cl gl c
section
variable {cl : CallD} {gl : List (Str × D)} {τ : Sd} {h : Hd} {Z : Endd} {Q : PD}
theorem nxt_of {c : CS} (q : ws cl gl c Z τ h) : nxt cl gl c Z τ h := q
@[simp ↓ high] theorem r_seq1 {s : CS} : ws cl gl (.seq s .nil) Z τ h = ws cl gl s Z τ h := by (try simp only [nxt, wx_eq, ws_eq, px_eq]) <;> rfl
@[simp ↓] theorem r_seq {s r : CS} : ws cl gl (.seq s r) Z τ h = ws cl gl s ⟨nxt cl gl r Z, Z.rt, Z.bk, Z.ct⟩ τ h := by (try simp only [nxt, wx_eq, ws_eq, px_eq]) <;> rfl
@[simp ↓] theorem r_nil : ws cl gl .nil Z τ h = Z.nx τ h := by (try simp only [nxt, wx_eq, ws_eq, px_eq]) <;> rfl
@[simp ↓] theorem n_nil : nxt cl gl .nil Z τ h = Z.nx τ h := by simp only [nxt, ws_eq]; rfl
@[simp ↓] theorem z_nx {v : D} : (endZ h Q).nx τ = fun h' => Gc h .non h' Q := rfl
@[simp ↓] theorem z_rt : (endZ h Q).rt = fun v h' => Gc h v h' Q := rfl
@[simp ↓] theorem r_pass : ws cl gl .pass Z τ h = Z.nx τ h := by (try simp only [nxt, wx_eq, ws_eq, px_eq]) <;> rfl
@[simp ↓] theorem r_brk : ws cl gl .brk Z τ h = Z.bk τ h := by (try simp only [nxt, wx_eq, ws_eq, px_eq]) <;> rfl
@[simp ↓] theorem r_cont : ws cl gl .cont Z τ h = Z.ct τ h := by (try simp only [nxt, wx_eq, ws_eq, px_eq]) <;> rfl
@[simp ↓] theorem r_expr {e : CE} : ws cl gl (.expr e) Z τ h = (wx cl gl e).e τ h fun _ h1 => Z.nx τ h1 := by (try simp only [nxt, wx_eq, ws_eq, px_eq]) <;> rfl
@[simp ↓] theorem r_asg {i : Nat} {e : CE} : ws cl gl (.asg (.nm i) e) Z τ h = (wx cl gl e).e τ h fun d h1 => mat d h1 fun d' h2 => Z.nx (τ.set i (some d')) h2 := by (try simp only [nxt, wx_eq, ws_eq, px_eq]) <;> rfl
@[simp ↓] theorem r_asgt {is : List Nat} {e : CE} : ws cl gl (.asg (.tp is) e) Z τ h = (wx cl gl e).e τ h fun d h1 => mat d h1 fun d' h2 => bindW (.tp is) d' τ fun τ' => Z.nx τ' h2 := by (try simp only [nxt, wx_eq, ws_eq, px_eq]) <;> rfl
@[simp ↓] theorem r_asgs {is : List Nat} {as : CE} : ws cl gl (.asgs is as) Z τ h = (wx cl gl as).a true τ h fun ds h1 => (ds.length = is.length ∧ ds.length ≤ sizeLine) ∧ Z.nx (setAll τ is ds) h1 := by (try simp only [nxt, wx_eq, ws_eq, px_eq]) <;> rfl
@[simp ↓] theorem r_setIdx {o i e : CE} : ws cl gl (.setIdx o i e) Z τ h = (wx cl gl e).e τ h fun d h1 => mat d h1 fun d' h2 => (wx cl gl o).e τ h2 fun x h3 => (wx cl gl i).e τ h3 fun y h4 => setIdxW x y d' h4 fun h5 => Z.nx τ h5 := by (try simp only [nxt, wx_eq, ws_eq, px_eq]) <;> rfl
@[simp ↓] theorem r_aug {i : Nat} {p : Prim} {e : CE} : ws cl gl (.aug i p e) Z τ h = (match τ[i]? with
  | some (some x) => (wx cl gl e).e τ h fun y h1 => augW p x y h1 fun z h2 => Z.nx (τ.set i (some z)) h2
  | _ => False) := by (try simp only [nxt, wx_eq, ws_eq, px_eq]) <;> rfl
@[simp ↓] theorem r_ret {e : CE} : ws cl gl (.ret e) Z τ h = (wx cl gl e).e τ h Z.rt := by (try simp only [nxt, wx_eq, ws_eq, px_eq]) <;> rfl
@[simp ↓] theorem r_retN : ws cl gl .retN Z τ h = Z.rt .non h := by (try simp only [nxt, wx_eq, ws_eq, px_eq]) <;> rfl
@[simp ↓] theorem r_ite {t : CE} {a b : CS} : ws cl gl (.ite t a b) Z τ h = (wx cl gl t).t τ h fun k h1 => if k = true then nxt cl gl a Z τ h1 else nxt cl gl b Z τ h1 := by (try simp only [nxt, wx_eq, ws_eq, px_eq]) <;> rfl
@[simp ↓] theorem r_while {t : CE} {b : CS} : ws cl gl (.whil t b) Z τ h = whileW (wx cl gl t).t (ws cl gl b) Z τ h := by (try simp only [nxt, wx_eq, ws_eq, px_eq]) <;> rfl
@[simp ↓] theorem r_for {p : Pat} {it : CE} {b : CS} : ws cl gl (.forr p it b) Z τ h = (wx cl gl it).i τ h fun w h1 => forW w.ok p (ws cl gl b) Z w.xs τ h1 := by (try simp only [nxt, wx_eq, ws_eq, px_eq]) <;> rfl
@[simp ↓] theorem r_raise {c : Nat} {e : CE} : ws cl gl (.raise c e) Z τ h = (wx cl gl e).e τ h fun _ h1 => cl.x c h1 := by (try simp only [nxt, wx_eq, ws_eq, px_eq]) <;> rfl
@[simp ↓] theorem r_tryc {k : TryK} {f hc : Nat} {as : CE} {hs : List (Nat × Bool × D)} : ws cl gl (.tryc k f as hc hs) Z τ h = (wx cl.quiet gl as).a true τ h fun ds h1 => cl.c f ds h1 (tryK k Z τ) (exH cl hs Z) := by (try simp only [nxt, wx_eq, ws_eq, px_eq]) <;> rfl
@[simp ↓] theorem k_ret {v : D} : tryK .ret Z τ v h = Z.rt v h := rfl
@[simp ↓] theorem k_set {i : Nat} {v : D} : tryK (.set i) Z τ v h = mat v h fun d' h' => Z.nx (τ.set i (some d')) h' := rfl
@[simp ↓] theorem k_expr {v : D} : tryK .expr Z τ v h = Z.nx τ h := rfl
/-! expressions -/
@[simp ↓] theorem e_var {i : Nat} : (wx cl gl (.var i)).e τ h Q = (match τ[i]? with | some (some d) => Q d h | _ => False) := by (try simp only [nxt, wx_eq, ws_eq, px_eq]) <;> rfl
@[simp ↓] theorem e_cst {d : D} : (wx cl gl (.cst d)).e τ h Q = Q d h := by (try simp only [nxt, wx_eq, ws_eq, px_eq]) <;> rfl
@[simp ↓] theorem e_glob {i : Nat} : (wx cl gl (.glob i)).e τ h Q = (match gl[i]? with | some (_, d) => Q d h | none => False) := by (try simp only [nxt, wx_eq, ws_eq, px_eq]) <;> rfl
@[simp ↓] theorem e_tup {as : CE} : (wx cl gl (.tup as)).e τ h Q = (wx cl gl as).a true τ h fun ds h' => ds.length ≤ sizeLine ∧ Q (.tup ds) h' := by (try simp only [nxt, wx_eq, ws_eq, px_eq]) <;> rfl
@[simp ↓] theorem e_lst {as : CE} : (wx cl gl (.lst as)).e τ h Q = (wx cl gl as).a true τ h fun ds h' => ds.length ≤ sizeLine ∧ Q (.tl ds) h' := by (try simp only [nxt, wx_eq, ws_eq, px_eq]) <;> rfl
@[simp ↓] theorem e_disp {ks : List Key} {as : CE} : (wx cl gl (.disp ks as)).e τ h Q = (wx cl gl as).a true τ h fun ds h' => ds.length = ks.length ∧ Q (.td false (ks.map keyD) ds) h' := by (try simp only [nxt, wx_eq, ws_eq, px_eq]) <;> rfl
@[simp ↓] theorem e_prim {p : Prim} {as : CE} : (wx cl gl (.prim p as)).e τ h Q = (wx cl gl as).a false τ h fun ds h' => px p ds h' Q := by (try simp only [nxt, wx_eq, ws_eq, px_eq]) <;> rfl
@[simp ↓] theorem e_meth {m : MP} {o as : CE} : (wx cl gl (.meth m o as)).e τ h Q = (wx cl gl o).e τ h fun x h1 => tyM m h1 x ∧ (wx cl gl as).a true τ h1 fun ds h2 => wpM m x ds h2 Q := by (try simp only [nxt, wx_eq, ws_eq, px_eq]) <;> rfl
@[simp ↓] theorem e_call {f : Nat} {as : CE} : (wx cl gl (.call f as)).e τ h Q = (wx cl gl as).a true τ h fun ds h' => cl.c f ds h' Q cl.x := by (try simp only [nxt, wx_eq, ws_eq, px_eq]) <;> rfl
@[simp ↓] theorem e_ife {t a b : CE} : (wx cl gl (.ife t a b)).e τ h Q = (wx cl gl t).t τ h fun k h' => if k = true then (wx cl gl a).e τ h' Q else (wx cl gl b).e τ h' Q := by (try simp only [nxt, wx_eq, ws_eq, px_eq]) <;> rfl
@[simp ↓] theorem e_and {a b : CE} : (wx cl gl (.and_ a b)).e τ h Q = (wx cl gl a).e τ h fun d h' => blQ d fun k => if k = true then (wx cl gl b).e τ h' Q else Q (.bl false) h' := by simp only [← blQ_eq, wx_eq, px_eq]; rfl
@[simp ↓] theorem e_or {a b : CE} : (wx cl gl (.or_ a b)).e τ h Q = (wx cl gl a).e τ h fun d h' => blQ d fun k => if k = true then Q (.bl true) h' else (wx cl gl b).e τ h' Q := by simp only [← blQ_eq, wx_eq, px_eq]; rfl
@[simp ↓] theorem e_not {a : CE} : (wx cl gl (.not_ a)).e τ h Q = (wx cl gl a).e τ h fun d h' => blQ d fun k => Q (.bl (!k)) h' := by simp only [← blQ_eq, wx_eq, px_eq]; rfl
@[simp ↓] theorem e_chain {p q : Prim} {a b c : CE} : (wx cl gl (.chain p q a b c)).e τ h Q = (wx cl gl a).e τ h fun x h1 => (wx cl gl b).e τ h1 fun y h2 => px p [x, y] h2 fun r h3 => blQ r fun k =>
      if k = true then (wx cl gl c).e τ h3 fun z h4 => px q [y, z] h4 Q else Q (.bl false) h3 := by simp only [← blQ_eq, wx_eq, px_eq]; rfl
@[simp ↓] theorem e_sl2 {a b c : CE} : (wx cl gl (.sl2 a b c)).e τ h Q = (wx cl gl a).e τ h fun x h1 => (wx cl gl b).e τ h1 fun y h2 => match y with
  | .int i => (wx cl gl c).e τ h2 fun z h3 => match z with
    | .int j => slW x (some i) (some j) h3 Q
    | _ => False
  | _ => False := by (try simp only [nxt, wx_eq, ws_eq, px_eq]) <;> rfl
@[simp ↓] theorem e_comp {p : Pat} {it c elt : CE} : (wx cl gl (.comp p it none c elt)).e τ h Q = (wx cl gl it).i τ h fun w h1 => compW w.ok p yesT (wx cl.quiet gl elt).e (wipeD τ p.ix) (fun acc h2 => Q (.tl acc) h2) w.xs [] h1 := by (try simp only [nxt, wx_eq, ws_eq, px_eq]) <;> rfl
@[simp ↓] theorem e_compf {p : Pat} {it c elt : CE} : (wx cl gl (.comp p it (some ()) c elt)).e τ h Q = (wx cl gl it).i τ h fun w h1 => compW w.ok p (wx cl.quiet gl c).t (wx cl.quiet gl elt).e (wipeD τ p.ix) (fun acc h2 => Q (.tl acc) h2) w.xs [] h1 := by (try simp only [nxt, wx_eq, ws_eq, px_eq]) <;> rfl
@[simp ↓] theorem e_comp2 {p p2 : Pat} {it it2 elt : CE} : (wx cl gl (.comp2 p it p2 it2 elt)).e τ h Q = (wx cl gl it).i τ h fun w h1 => comp2W w.ok h1.length p (wx cl.quiet gl it2).i p2 (wx cl.quiet gl elt).e (wipeD τ (p.ix ++ p2.ix)) Q w.xs (h1 ++ [.lst []]) := by (try simp only [nxt, wx_eq, ws_eq, px_eq]) <;> rfl
@[simp ↓] theorem e_dvals {i k : Nat} : (wx cl gl (.dvals i k)).e τ h Q = (match τ[i]? with
  | some (some (.loc a)) => (match h[a]? with
    | some (.dct false ks vs) => (ks.length ≤ sizeLine ∧ k < τ.length) ∧ Q (.tl (dVals ks vs)) h
    | _ => False)
  | _ => False) := by (try simp only [nxt, wx_eq, ws_eq, px_eq]) <;> rfl
/-! arguments -/
@[simp ↓] theorem a_nil {m : Bool} {Q : List D → Hd → Prop} : (wx cl gl .anil).a m τ h Q = Q [] h := by rw [wx_eq]; cases m <;> rfl
@[simp ↓] theorem a_consT {e r : CE} {Q : List D → Hd → Prop} : (wx cl gl (.acons e r)).a true τ h Q = (wx cl gl e).e τ h fun d h1 => mat d h1 fun d' h2 => (wx cl gl r).a true τ h2 fun ds h3 => Q (d' :: ds) h3 := by (try simp only [nxt, wx_eq, ws_eq, px_eq]) <;> rfl
@[simp ↓] theorem a_consF {e r : CE} {Q : List D → Hd → Prop} : (wx cl gl (.acons e r)).a false τ h Q = (wx cl gl e).e τ h fun d h1 => (wx cl gl r).a false τ h1 fun ds h3 => Q (d :: ds) h3 := by (try simp only [nxt, wx_eq, ws_eq, px_eq]) <;> rfl
/-! tests -/
section
variable {Q : Bool → Hd → Prop}
def tr (Q : Bool → Hd → Prop) : PD := fun d h => match truth h d with | some k => Q k h | none => False
@[simp ↓] theorem tr_bl {b : Bool} : tr Q (.bl b) h = Q b h := rfl
@[simp ↓] theorem tr_int {i : Int} : tr Q (.int i) h = Q (i != 0) h := rfl
@[simp ↓] theorem tr_non : tr Q .non h = Q false h := rfl
@[simp ↓] theorem tr_tup {xs : List D} : tr Q (.tup xs) h = Q (!xs.isEmpty) h := rfl
@[simp ↓] theorem tr_tl {xs : List D} : tr Q (.tl xs) h = Q (!xs.isEmpty) h := rfl
@[simp ↓] theorem tr_loc {a : Nat} : tr Q (.loc a) h = lstQ h[a]? fun xs => Q (!xs.isEmpty) h := by
  simp only [tr, truth, lstOf, lstQ]
  try (rcases h[a]? with _ | ⟨_ | _ | _⟩ <;> rfl)
@[simp ↓] theorem t_var {i : Nat} : (wx cl gl (.var i)).t τ h Q = (match τ[i]? with | some (some d) => tr Q d h | _ => False) := by (try simp only [nxt, wx_eq, ws_eq, px_eq]) <;> rfl
@[simp ↓] theorem t_cst {d : D} : (wx cl gl (.cst d)).t τ h Q = tr Q d h := by (try simp only [nxt, wx_eq, ws_eq, px_eq]) <;> rfl
@[simp ↓] theorem t_prim {p : Prim} {as : CE} : (wx cl gl (.prim p as)).t τ h Q = (wx cl gl as).a false τ h fun ds h' => px p ds h' (tr Q) := by (try simp only [nxt, wx_eq, ws_eq, px_eq]) <;> rfl
@[simp ↓] theorem t_call {f : Nat} {as : CE} : (wx cl gl (.call f as)).t τ h Q = (wx cl gl as).a true τ h fun ds h' => cl.c f ds h' (tr Q) cl.x := by (try simp only [nxt, wx_eq, ws_eq, px_eq]) <;> rfl
@[simp ↓] theorem t_and {a b : CE} : (wx cl gl (.and_ a b)).t τ h Q = (wx cl gl a).t τ h fun k h' => if k = true then (wx cl gl b).t τ h' Q else Q false h' := by (try simp only [nxt, wx_eq, ws_eq, px_eq]) <;> rfl
@[simp ↓] theorem t_or {a b : CE} : (wx cl gl (.or_ a b)).t τ h Q = (wx cl gl a).t τ h fun k h' => if k = true then Q true h' else (wx cl gl b).t τ h' Q := by (try simp only [nxt, wx_eq, ws_eq, px_eq]) <;> rfl
@[simp ↓] theorem t_not {a : CE} : (wx cl gl (.not_ a)).t τ h Q = (wx cl gl a).t τ h fun k h' => Q (!k) h' := by (try simp only [nxt, wx_eq, ws_eq, px_eq]) <;> rfl
@[simp ↓] theorem t_chain {p q : Prim} {a b c : CE} : (wx cl gl (.chain p q a b c)).t τ h Q = (wx cl gl a).e τ h fun x h1 => (wx cl gl b).e τ h1 fun y h2 => px p [x, y] h2 fun r h3 => blQ r fun k =>
      if k = true then (wx cl gl c).e τ h3 fun z h4 => px q [y, z] h4 (tr Q) else tr Q (.bl false) h3 := by simp only [← blQ_eq, wx_eq, px_eq]; rfl
@[simp ↓] theorem t_tup {as : CE} : (wx cl gl (.tup as)).t τ h Q = (wx cl gl as).a true τ h fun ds h' => ds.length ≤ sizeLine ∧ tr Q (.tup ds) h' := by (try simp only [nxt, wx_eq, ws_eq, px_eq]) <;> rfl
@[simp ↓] theorem t_comp {p : Pat} {it c elt : CE} : (wx cl gl (.comp p it none c elt)).t τ h Q = (wx cl gl it).i τ h fun w h1 => compW w.ok p yesT (wx cl.quiet gl elt).e (wipeD τ p.ix) (fun acc h2 => tr Q (.tl acc) h2) w.xs [] h1 := by (try simp only [nxt, wx_eq, ws_eq, px_eq]) <;> rfl
@[simp ↓] theorem t_compf {p : Pat} {it c elt : CE} : (wx cl gl (.comp p it (some ()) c elt)).t τ h Q = (wx cl gl it).i τ h fun w h1 => compW w.ok p (wx cl.quiet gl c).t (wx cl.quiet gl elt).e (wipeD τ p.ix) (fun acc h2 => tr Q (.tl acc) h2) w.xs [] h1 := by (try simp only [nxt, wx_eq, ws_eq, px_eq]) <;> rfl
end
/-! what is walked -/
section
variable {Q : Iter → Hd → Prop}
def it (Q : Iter → Hd → Prop) : PD := fun d h => match d with
    | .tup xs => Q (.vals xs) h
    | .tl xs => Q (.vals xs) h
    | .rl xs => Q (.vals xs) h
    | .str x => x.length ≤ sizeLine ∧ Q (.vals (chrs x)) h
    | .loc a => match h[a]? with
      | some (.lst xs) => Q (.live a xs) h
      | _ => False
    | _ => False
@[simp ↓] theorem it_tup {xs : List D} : it Q (.tup xs) h = Q (.vals xs) h := rfl
@[simp ↓] theorem it_tl {xs : List D} : it Q (.tl xs) h = Q (.vals xs) h := rfl
@[simp ↓] theorem it_rl {xs : List D} : it Q (.rl xs) h = Q (.vals xs) h := rfl
@[simp ↓] theorem it_loc {a : Nat} : it Q (.loc a) h = lstQ h[a]? fun xs => Q (.live a xs) h := by
  simp only [it, lstQ]
@[simp ↓] theorem i_var {i : Nat} : (wx cl gl (.var i)).i τ h Q = (match τ[i]? with | some (some d) => it Q d h | _ => False) := by (try simp only [nxt, wx_eq, ws_eq, px_eq]) <;> rfl
@[simp ↓] theorem i_cst {d : D} : (wx cl gl (.cst d)).i τ h Q = it Q d h := by (try simp only [nxt, wx_eq, ws_eq, px_eq]) <;> rfl
@[simp ↓] theorem i_tup {as : CE} : (wx cl gl (.tup as)).i τ h Q = (wx cl gl as).a true τ h fun ds h' => ds.length ≤ sizeLine ∧ Q (.vals ds) h' := by (try simp only [nxt, wx_eq, ws_eq, px_eq]) <;> rfl
@[simp ↓] theorem i_lst {as : CE} : (wx cl gl (.lst as)).i τ h Q = (wx cl gl as).a true τ h fun ds h' => ds.length ≤ sizeLine ∧ Q (.vals ds) h' := by (try simp only [nxt, wx_eq, ws_eq, px_eq]) <;> rfl
@[simp ↓] theorem i_prim {p : Prim} {as : CE} : (wx cl gl (.prim p as)).i τ h Q = (wx cl gl as).a false τ h fun ds h' => px p ds h' (it Q) := by (try simp only [nxt, wx_eq, ws_eq, px_eq]) <;> rfl
@[simp ↓] theorem i_call {f : Nat} {as : CE} : (wx cl gl (.call f as)).i τ h Q = (wx cl gl as).a true τ h fun ds h' => cl.c f ds h' (it Q) cl.x := by (try simp only [nxt, wx_eq, ws_eq, px_eq]) <;> rfl
@[simp ↓] theorem i_r1 {a : CE} : (wx cl gl (.r1 a)).i τ h Q = (wx cl gl a).e τ h fun d h' => match d with | .int n => (-(2 ^ 62) ≤ n ∧ n < 2 ^ 62) ∧ Q (.vals (rangeD 0 n.toNat)) h' | _ => False := by (try simp only [nxt, wx_eq, ws_eq, px_eq]) <;> rfl
@[simp ↓] theorem i_r2 {a b : CE} : (wx cl gl (.r2 a b)).i τ h Q = (wx cl gl a).e τ h fun x h1 => (wx cl gl b).e τ h1 fun y h2 => match x, y with
    | .int i, .int j => (-(2 ^ 62) ≤ i ∧ i < 2 ^ 62 ∧ -(2 ^ 62) ≤ j ∧ j < 2 ^ 62) ∧ Q (.vals (rangeD i (j - i).toNat)) h2
    | _, _ => False := by (try simp only [nxt, wx_eq, ws_eq, px_eq]) <;> rfl
@[simp ↓] theorem ok_vals {xs : List D} : (Iter.vals xs).ok h = True := rfl
@[simp ↓] theorem xs_vals {xs : List D} : (Iter.vals xs).xs = xs := rfl
@[simp ↓] theorem ok_live {a : Nat} {xs : List D} : (Iter.live a xs).ok h = (h[a]? = some (.lst xs)) := rfl
@[simp ↓] theorem xs_live {a : Nat} {xs : List D} : (Iter.live a xs).xs = xs := rfl
end
/-! binding, places -/
@[simp ↓] theorem b_nm {i : Nat} {d : D} {k : Sd → Prop} : bindW (.nm i) d τ k = k (τ.set i (some d)) := rfl
@[simp ↓] theorem b_tp {is : List Nat} {ds : List D} {k : Sd → Prop} : bindW (.tp is) (.tup ds) τ k = (ds.length = is.length ∧ k (setAll τ is ds)) := rfl
@[simp ↓] theorem sa_nil {ds : List D} : setAll τ [] ds = τ := by cases ds <;> rfl
@[simp ↓] theorem sa_nil2 {is : List Nat} : setAll τ is [] = τ := by cases is <;> rfl
@[simp ↓] theorem sa_cons {i : Nat} {is : List Nat} {d : D} {ds : List D} : setAll τ (i :: is) (d :: ds) = setAll (τ.set i (some d)) is ds := rfl
@[simp ↓] theorem pix_nm {i : Nat} : (Pat.nm i).ix = [i] := rfl
@[simp ↓] theorem pix_tp {is : List Nat} : (Pat.tp is).ix = is := rfl
@[simp ↓] theorem wi_nil : wipeD τ [] = τ := rfl
@[simp ↓] theorem wi_cons {i : Nat} {is : List Nat} : wipeD τ (i :: is) = (wipeD τ is).set i none := rfl
@[simp ↓] theorem m_non : mat .non h Q = Q .non h := rfl
@[simp ↓] theorem m_bl {b : Bool} : mat (.bl b) h Q = Q (.bl b) h := rfl
@[simp ↓] theorem m_int {b : Int} : mat (.int b) h Q = Q (.int b) h := rfl
@[simp ↓] theorem m_str {b : Str} : mat (.str b) h Q = Q (.str b) h := rfl
@[simp ↓] theorem m_tup {b : List D} : mat (.tup b) h Q = Q (.tup b) h := rfl
@[simp ↓] theorem m_rl {b : List D} : mat (.rl b) h Q = Q (.rl b) h := rfl
@[simp ↓] theorem m_loc {b : Nat} : mat (.loc b) h Q = Q (.loc b) h := rfl
@[simp ↓] theorem m_tl {xs : List D} : mat (.tl xs) h Q = Q (.loc h.length) (h ++ [.lst xs]) := rfl
/-! operators -/
@[simp ↓] theorem x_add {i j : Int} : px .add [.int i, .int j] h Q = Q (.int (i + j)) h := by (try simp only [nxt, wx_eq, ws_eq, px_eq]) <;> rfl
@[simp ↓] theorem x_sub {i j : Int} : px .sub [.int i, .int j] h Q = Q (.int (i - j)) h := by (try simp only [nxt, wx_eq, ws_eq, px_eq]) <;> rfl
@[simp ↓] theorem x_mul {i j : Int} : px .mul [.int i, .int j] h Q = (mulOk i j ∧ Q (.int (i * j)) h) := by (try simp only [nxt, wx_eq, ws_eq, px_eq]) <;> rfl
@[simp ↓] theorem x_fdiv {i j : Int} : px .fdiv [.int i, .int j] h Q = (divOk j ∧ Q (.int (i.fdiv j)) h) := by (try simp only [nxt, wx_eq, ws_eq, px_eq]) <;> rfl
@[simp ↓] theorem x_mod {i j : Int} : px .mod [.int i, .int j] h Q = (j ≠ 0 ∧ Q (.int (i.fmod j)) h) := by (try simp only [nxt, wx_eq, ws_eq, px_eq]) <;> rfl
@[simp ↓] theorem x_pow {i j : Int} : px .pow [.int i, .int j] h Q = ((0 ≤ j ∧ j ≤ 1000000 ∧ i.natAbs < 2 ^ 64) ∧ Q (.int (i ^ j.toNat)) h) := by (try simp only [nxt, wx_eq, ws_eq, px_eq]) <;> rfl
@[simp ↓] theorem x_neg {i : Int} : px .neg [.int i] h Q = Q (.int (-i)) h := by (try simp only [nxt, wx_eq, ws_eq, px_eq]) <;> rfl
@[simp ↓] theorem x_eq {i j : Int} : px .eq [.int i, .int j] h Q = Q (.bl (decide (i = j))) h := by (try simp only [nxt, wx_eq, ws_eq, px_eq]) <;> rfl
@[simp ↓] theorem x_eqS {i j : Str} : px .eq [.str i, .str j] h Q = Q (.bl (decide (i = j))) h := by (try simp only [nxt, wx_eq, ws_eq, px_eq]) <;> rfl
@[simp ↓] theorem x_eqB {i j : Bool} : px .eq [.bl i, .bl j] h Q = Q (.bl (decide (i = j))) h := by (try simp only [nxt, wx_eq, ws_eq, px_eq]) <;> rfl
@[simp ↓] theorem x_ne {i j : Int} : px .ne [.int i, .int j] h Q = Q (.bl (!decide (i = j))) h := by (try simp only [nxt, wx_eq, ws_eq, px_eq]) <;> rfl
@[simp ↓] theorem x_neS {i j : Str} : px .ne [.str i, .str j] h Q = Q (.bl (!decide (i = j))) h := by (try simp only [nxt, wx_eq, ws_eq, px_eq]) <;> rfl
@[simp ↓] theorem x_neB {i j : Bool} : px .ne [.bl i, .bl j] h Q = Q (.bl (!decide (i = j))) h := by (try simp only [nxt, wx_eq, ws_eq, px_eq]) <;> rfl
@[simp ↓] theorem x_lt {i j : Int} : px .lt [.int i, .int j] h Q = Q (.bl (decide (i < j))) h := by (try simp only [nxt, wx_eq, ws_eq, px_eq]) <;> rfl
@[simp ↓] theorem x_le {i j : Int} : px .le [.int i, .int j] h Q = Q (.bl (decide (i ≤ j))) h := by (try simp only [nxt, wx_eq, ws_eq, px_eq]) <;> rfl
@[simp ↓] theorem x_gt {i j : Int} : px .gt [.int i, .int j] h Q = Q (.bl (decide (j < i))) h := by (try simp only [nxt, wx_eq, ws_eq, px_eq]) <;> rfl
@[simp ↓] theorem x_ge {i j : Int} : px .ge [.int i, .int j] h Q = Q (.bl (decide (j ≤ i))) h := by (try simp only [nxt, wx_eq, ws_eq, px_eq]) <;> rfl
@[simp ↓] theorem x_isN {x : D} : px .is_ [x, .non] h Q = Q (.bl (isNonD x)) h := by (try simp only [nxt, wx_eq, ws_eq, px_eq]) <;> rfl
@[simp ↓] theorem x_isB {x : D} {b : Bool} : px .is_ [x, .bl b] h Q = Q (.bl (isBlD b x)) h := by (try simp only [nxt, wx_eq, ws_eq, px_eq]) <;> rfl
@[simp ↓] theorem x_isnotN {x : D} : px .isnot [x, .non] h Q = Q (.bl (!isNonD x)) h := by (try simp only [nxt, wx_eq, ws_eq, px_eq]) <;> rfl
@[simp ↓] theorem x_isnotB {x : D} {b : Bool} : px .isnot [x, .bl b] h Q = Q (.bl (!isBlD b x)) h := by (try simp only [nxt, wx_eq, ws_eq, px_eq]) <;> rfl
@[simp ↓] theorem x_abs {i : Int} : px .abs [.int i] h Q = Q (.int (if i < 0 then -i else i)) h := by (try simp only [nxt, wx_eq, ws_eq, px_eq]) <;> rfl
@[simp ↓] theorem x_int {i : Int} : px .int1 [.int i] h Q = Q (.int i) h := by (try simp only [nxt, wx_eq, ws_eq, px_eq]) <;> rfl
@[simp ↓] theorem x_intB {b : Bool} : px .int1 [.bl b] h Q = Q (.int (if b then 1 else 0)) h := by (try simp only [nxt, wx_eq, ws_eq, px_eq]) <;> rfl
@[simp ↓] theorem x_gcd {i j : Int} : px .gcd [.int i, .int j] h Q = Q (.int ((Nat.gcd i.natAbs j.natAbs : Nat) : Int)) h := by (try simp only [nxt, wx_eq, ws_eq, px_eq]) <;> rfl
@[simp ↓] theorem x_bits {i : Int} : px .bits [.int i] h Q = Q (.int (Builtin.Int.intBits i : Nat)) h := by (try simp only [nxt, wx_eq, ws_eq, px_eq]) <;> rfl
theorem x_instI {T : String} {i : Int} : px (.inst T) [.int i] h Q = Q (.bl (T == "int")) h := by (try simp only [nxt, wx_eq, ws_eq, px_eq]) <;> rfl
theorem x_instB {T : String} {i : Bool} : px (.inst T) [.bl i] h Q = Q (.bl (T == "bool" || T == "int")) h := by (try simp only [nxt, wx_eq, ws_eq, px_eq]) <;> rfl
theorem x_instS {T : String} {i : Str} : px (.inst T) [.str i] h Q = Q (.bl (T == "str")) h := by (try simp only [nxt, wx_eq, ws_eq, px_eq]) <;> rfl
theorem x_instT {T : String} {i : List D} : px (.inst T) [.tup i] h Q = Q (.bl (T == "tuple")) h := by (try simp only [nxt, wx_eq, ws_eq, px_eq]) <;> rfl
theorem x_instN {T : String} : px (.inst T) [.non] h Q = Q (.bl (T == "NoneType")) h := by (try simp only [nxt, wx_eq, ws_eq, px_eq]) <;> rfl
@[simp ↓] theorem x_instI_int {i : Int} : px (.inst "int") [.int i] h Q = Q (.bl true) h := by rw [x_instI, sq_int_int]
@[simp ↓] theorem x_instS_int {i : Str} : px (.inst "int") [.str i] h Q = Q (.bl false) h := by rw [x_instS, sq_int_str]
@[simp ↓] theorem x_instT_int {i : List D} : px (.inst "int") [.tup i] h Q = Q (.bl false) h := by rw [x_instT, sq_int_tuple]
@[simp ↓] theorem x_instN_int  : px (.inst "int") [.non] h Q = Q (.bl false) h := by rw [x_instN, sq_int_NoneType]
@[simp ↓] theorem x_instB_int {i : Bool} : px (.inst "int") [.bl i] h Q = Q (.bl true) h := by rw [x_instB, sq_int_bool, sq_int_int]; rfl
@[simp ↓] theorem x_instI_bool {i : Int} : px (.inst "bool") [.int i] h Q = Q (.bl false) h := by rw [x_instI, sq_bool_int]
@[simp ↓] theorem x_instS_bool {i : Str} : px (.inst "bool") [.str i] h Q = Q (.bl false) h := by rw [x_instS, sq_bool_str]
@[simp ↓] theorem x_instT_bool {i : List D} : px (.inst "bool") [.tup i] h Q = Q (.bl false) h := by rw [x_instT, sq_bool_tuple]
@[simp ↓] theorem x_instN_bool  : px (.inst "bool") [.non] h Q = Q (.bl false) h := by rw [x_instN, sq_bool_NoneType]
@[simp ↓] theorem x_instB_bool {i : Bool} : px (.inst "bool") [.bl i] h Q = Q (.bl true) h := by rw [x_instB, sq_bool_bool, sq_bool_int]; rfl
@[simp ↓] theorem x_instI_str {i : Int} : px (.inst "str") [.int i] h Q = Q (.bl false) h := by rw [x_instI, sq_str_int]
@[simp ↓] theorem x_instS_str {i : Str} : px (.inst "str") [.str i] h Q = Q (.bl true) h := by rw [x_instS, sq_str_str]
@[simp ↓] theorem x_instT_str {i : List D} : px (.inst "str") [.tup i] h Q = Q (.bl false) h := by rw [x_instT, sq_str_tuple]
@[simp ↓] theorem x_instN_str  : px (.inst "str") [.non] h Q = Q (.bl false) h := by rw [x_instN, sq_str_NoneType]
@[simp ↓] theorem x_instB_str {i : Bool} : px (.inst "str") [.bl i] h Q = Q (.bl false) h := by rw [x_instB, sq_str_bool, sq_str_int]; rfl
@[simp ↓] theorem x_instI_tuple {i : Int} : px (.inst "tuple") [.int i] h Q = Q (.bl false) h := by rw [x_instI, sq_tuple_int]
@[simp ↓] theorem x_instS_tuple {i : Str} : px (.inst "tuple") [.str i] h Q = Q (.bl false) h := by rw [x_instS, sq_tuple_str]
@[simp ↓] theorem x_instT_tuple {i : List D} : px (.inst "tuple") [.tup i] h Q = Q (.bl true) h := by rw [x_instT, sq_tuple_tuple]
@[simp ↓] theorem x_instN_tuple  : px (.inst "tuple") [.non] h Q = Q (.bl false) h := by rw [x_instN, sq_tuple_NoneType]
@[simp ↓] theorem x_instB_tuple {i : Bool} : px (.inst "tuple") [.bl i] h Q = Q (.bl false) h := by rw [x_instB, sq_tuple_bool, sq_tuple_int]; rfl
@[simp ↓] theorem x_instI_list {i : Int} : px (.inst "list") [.int i] h Q = Q (.bl false) h := by rw [x_instI, sq_list_int]
@[simp ↓] theorem x_instS_list {i : Str} : px (.inst "list") [.str i] h Q = Q (.bl false) h := by rw [x_instS, sq_list_str]
@[simp ↓] theorem x_instT_list {i : List D} : px (.inst "list") [.tup i] h Q = Q (.bl false) h := by rw [x_instT, sq_list_tuple]
@[simp ↓] theorem x_instN_list  : px (.inst "list") [.non] h Q = Q (.bl false) h := by rw [x_instN, sq_list_NoneType]
@[simp ↓] theorem x_instB_list {i : Bool} : px (.inst "list") [.bl i] h Q = Q (.bl false) h := by rw [x_instB, sq_list_bool, sq_list_int]; rfl
@[simp ↓] theorem x_instI_dict {i : Int} : px (.inst "dict") [.int i] h Q = Q (.bl false) h := by rw [x_instI, sq_dict_int]
@[simp ↓] theorem x_instS_dict {i : Str} : px (.inst "dict") [.str i] h Q = Q (.bl false) h := by rw [x_instS, sq_dict_str]
@[simp ↓] theorem x_instT_dict {i : List D} : px (.inst "dict") [.tup i] h Q = Q (.bl false) h := by rw [x_instT, sq_dict_tuple]
@[simp ↓] theorem x_instN_dict  : px (.inst "dict") [.non] h Q = Q (.bl false) h := by rw [x_instN, sq_dict_NoneType]
@[simp ↓] theorem x_instB_dict {i : Bool} : px (.inst "dict") [.bl i] h Q = Q (.bl false) h := by rw [x_instB, sq_dict_bool, sq_dict_int]; rfl
theorem x_instL {T : String} {a : Nat} {xs : List D} (e : h[a]? = some (.lst xs)) : px (.inst T) [.loc a] h Q = Q (.bl (T == "list")) h := by simp [px_eq, wpP, instW, isInst, e]
theorem lst_loc {a : Nat} {xs : List D} (e : h[a]? = some (.lst xs)) : lstOf h (.loc a) = some xs := by simp [lstOf, e]
@[simp ↓] theorem q_tup {xs : List D} : seqOf h (.tup xs) = some xs := rfl
@[simp ↓] theorem q_tl {xs : List D} : seqOf h (.tl xs) = some xs := rfl
@[simp ↓] theorem q_rl {xs : List D} : seqOf h (.rl xs) = some xs := rfl
theorem q_loc {a : Nat} {xs : List D} (e : h[a]? = some (.lst xs)) : seqOf h (.loc a) = some xs := by simp [seqOf, lstOf, e]
theorem x_len {x : D} {xs : List D} (e : seqOf h x = some xs) : px .len [x] h Q = Q (.int xs.length) h := by
  cases x with
  | str z => cases e
  | _ => simp only [px_eq, wpP, lenW, e]
@[simp ↓] theorem x_lenT {xs : List D} : px .len [.tup xs] h Q = Q (.int xs.length) h := by (try simp only [nxt, wx_eq, ws_eq, px_eq]) <;> rfl
@[simp ↓] theorem x_lenR {xs : List D} : px .len [.rl xs] h Q = Q (.int xs.length) h := by (try simp only [nxt, wx_eq, ws_eq, px_eq]) <;> rfl
@[simp ↓] theorem x_lenL {xs : List D} : px .len [.tl xs] h Q = Q (.int xs.length) h := by (try simp only [nxt, wx_eq, ws_eq, px_eq]) <;> rfl
@[simp ↓] theorem x_lenP {a : Nat} : px .len [.loc a] h Q = lstQ h[a]? fun xs => Q (.int xs.length) h := by
  simp only [px_eq, wpP, lenW, seqOf, lstOf, lstQ]
  try (rcases h[a]? with _ | ⟨_ | _ | _⟩ <;> rfl)
theorem x_idx {x : D} {i : Int} {xs : List D} (e : seqOf h x = some xs) : px .idx [x, .int i] h Q = atQ (atI xs i) Q h := by
  cases x with
  | str z => cases e
  | _ => simp only [px_eq, wpP, idxW, e]; rfl
@[simp ↓] theorem x_idxT {i : Int} {xs : List D} : px .idx [.tup xs, .int i] h Q = atQ (atI xs i) Q h := by (try simp only [nxt, wx_eq, ws_eq, px_eq]) <;> rfl
@[simp ↓] theorem x_idxR {i : Int} {xs : List D} : px .idx [.rl xs, .int i] h Q = atQ (atI xs i) Q h := by (try simp only [nxt, wx_eq, ws_eq, px_eq]) <;> rfl
@[simp ↓] theorem x_idxL {i : Int} {xs : List D} : px .idx [.tl xs, .int i] h Q = atQ (atI xs i) Q h := by (try simp only [nxt, wx_eq, ws_eq, px_eq]) <;> rfl
@[simp ↓] theorem x_idxP {a : Nat} {i : Int} : px .idx [.loc a, .int i] h Q = lstQ h[a]? fun xs => atQ (atI xs i) Q h := by
  simp only [px_eq, wpP, idxW, seqOf, lstOf, lstQ]
  try (rcases h[a]? with _ | ⟨_ | _ | _⟩ <;> rfl)
@[simp ↓] theorem x_listP {a : Nat} : px .list [.loc a] h Q = lstQ h[a]? fun xs => Q (.tl xs) h := by
  simp only [px_eq, wpP, listW, seqOf, lstOf, lstQ]
  try (rcases h[a]? with _ | ⟨_ | _ | _⟩ <;> rfl)
@[simp ↓] theorem x_tupleP {a : Nat} : px .tuple [.loc a] h Q = lstQ h[a]? fun xs => Q (.tup xs) h := by
  simp only [px_eq, wpP, tupleW, seqOf, lstOf, lstQ]
  try (rcases h[a]? with _ | ⟨_ | _ | _⟩ <;> rfl)
@[simp ↓] theorem mu_tl {xs : List D} : mutOf h (.tl xs) = some xs := rfl
theorem mu_loc {a : Nat} {xs : List D} (e : h[a]? = some (.lst xs)) : mutOf h (.loc a) = some xs := by simp [mutOf, lstOf, e]
theorem x_addL {x y : D} {a b : List D} (e1 : mutOf h x = some a) (e2 : mutOf h y = some b) : px .add [x, y] h Q = (a.length + b.length ≤ sizeLine ∧ Q (.tl (a ++ b)) h) := by
  cases x <;> first | (simp [mutOf, lstOf] at e1; done) | skip
  all_goals (cases y <;> first | (simp [mutOf, lstOf] at e2; done) | simp only [px_eq, wpP, addW, e1, e2])
theorem x_mulL {x : D} {a : List D} {k : Int} (e1 : mutOf h x = some a) : px .mul [x, .int k] h Q = (a.length * k.toNat ≤ sizeLine ∧ -(2 ^ 63) ≤ k ∧ k < 2 ^ 63 ∧ Q (.tl (List.replicate k.toNat a).flatten) h) := by
  cases x <;> first | (simp [mutOf, lstOf] at e1; done) | simp only [px_eq, wpP, mulW, e1]
@[simp ↓] theorem x_addTl {a b : List D} : px .add [.tl a, .tl b] h Q = (a.length + b.length ≤ sizeLine ∧ Q (.tl (a ++ b)) h) := x_addL rfl rfl
@[simp ↓] theorem x_mulTl {a : List D} {k : Int} : px .mul [.tl a, .int k] h Q = (a.length * k.toNat ≤ sizeLine ∧ -(2 ^ 63) ≤ k ∧ k < 2 ^ 63 ∧ Q (.tl (List.replicate k.toNat a).flatten) h) := x_mulL rfl
@[simp ↓] theorem x_addTp {a b : List D} : px .add [.tup a, .tup b] h Q = (a.length + b.length ≤ sizeLine ∧ Q (.tup (a ++ b)) h) := by (try simp only [nxt, wx_eq, ws_eq, px_eq]) <;> rfl
@[simp ↓] theorem x_listTl {xs : List D} : px .list [.tl xs] h Q = Q (.tl xs) h := by (try simp only [nxt, wx_eq, ws_eq, px_eq]) <;> rfl
@[simp ↓] theorem x_listTp {xs : List D} : px .list [.tup xs] h Q = Q (.tl xs) h := by (try simp only [nxt, wx_eq, ws_eq, px_eq]) <;> rfl
theorem x_list {x : D} {xs : List D} (e : seqOf h x = some xs) : px .list [x] h Q = Q (.tl xs) h := by simp only [px_eq, wpP, listW, e]
theorem x_tuple {x : D} {xs : List D} (e : seqOf h x = some xs) : px .tuple [x] h Q = Q (.tup xs) h := by simp only [px_eq, wpP, tupleW, e]
@[simp ↓] theorem x_append {a : Nat} {x : D} : wpM .append (.loc a) [x] h Q = lstQ h[a]? fun xs => xs.length < sizeLine ∧ Q .non (h.set a (.lst (xs ++ [x]))) := by
  simp only [wpM, appendW, lstQ]
  try (rcases h[a]? with _ | ⟨_ | _ | _⟩ <;> rfl)
@[simp ↓] theorem ty_append {a : Nat} : tyM .append h (.loc a) = lstQ h[a]? fun _ => True := by
  simp only [tyM, mutOf, lstOf, lstQ]
  try (rcases h[a]? with _ | ⟨_ | _ | _⟩ <;> simp)
def popQ (xs : List D) (k : D → List D → Prop) : Prop := match xs[xs.length - 1]? with
  | some y => k y xs.dropLast
  | none => False
@[simp] theorem popQ_snoc {xs : List D} {y : D} {k : D → List D → Prop} : popQ (xs ++ [y]) k = k y xs := by simp [popQ]
@[simp ↓] theorem x_pop {a : Nat} : px .pop [.loc a] h Q = lstQ h[a]? fun xs => popQ xs fun y ys => Q y (h.set a (.lst ys)) := by
  simp only [px_eq, wpP, popW, lstQ]
  try (rcases h[a]? with _ | ⟨_ | _ | _⟩ <;> rfl)
@[simp ↓] theorem x_reverse {a : Nat} : px .reverse [.loc a] h Q = lstQ h[a]? fun xs => Q .non (h.set a (.lst xs.reverse)) := by
  simp only [px_eq, wpP, reverseW, lstQ]
  try (rcases h[a]? with _ | ⟨_ | _ | _⟩ <;> rfl)
def setQ (o : Option DO) (kl : List D → Prop) (kd : List D → List D → Prop) : Prop := match o with
  | some (.lst xs) => kl xs
  | some (.dct false ks vs) => kd ks vs
  | _ => False
@[simp ↓] theorem setQ_def {o : Option DO} {kl : List D → Prop} {kd : List D → List D → Prop} : setQ o kl kd = (match o with | some (.lst xs) => kl xs | some (.dct false ks vs) => kd ks vs | _ => False) := rfl
@[simp] theorem setQ_some {xs : List D} {kl : List D → Prop} {kd : List D → List D → Prop} : setQ (some (.lst xs)) kl kd = kl xs := rfl
@[simp] theorem setQ_dct {ks vs : List D} {kl : List D → Prop} {kd : List D → List D → Prop} : setQ (some (.dct false ks vs)) kl kd = kd ks vs := rfl
def dctQ (o : Option DO) (kd : List D → List D → Prop) : Prop := match o with
  | some (.dct false ks vs) => kd ks vs
  | _ => False
@[simp ↓] theorem dctQ_def {o : Option DO} {kd : List D → List D → Prop} : dctQ o kd = (match o with | some (.dct false ks vs) => kd ks vs | _ => False) := rfl
@[simp] theorem dctQ_some {ks vs : List D} {kd : List D → List D → Prop} : dctQ (some (.dct false ks vs)) kd = kd ks vs := rfl
@[simp ↓] theorem x_set {a : Nat} {i : Int} {v : D} {k : Hd → Prop} : setIdxW (.loc a) (.int i) v h k = setQ h[a]? (fun xs => natQ (ixN xs.length i) fun n => k (h.set a (.lst (xs.set n v)))) fun ks vs => ks.length < sizeLine ∧ k (h.set a (.dct false (dPut ks vs (.inl i) v).1 (dPut ks vs (.inl i) v).2)) := by
  simp only [setIdxW, setQ, natQ]
  try (rcases h[a]? with _ | ⟨_ | ⟨_ | _, _, _⟩ | _⟩ <;> rfl)
@[simp ↓] theorem x_setS {a : Nat} {i : Str} {v : D} {k : Hd → Prop} : setIdxW (.loc a) (.str i) v h k = dctQ h[a]? fun ks vs => ks.length < sizeLine ∧ k (h.set a (.dct false (dPut ks vs (.inr i) v).1 (dPut ks vs (.inr i) v).2)) := by
  simp only [setIdxW, dctQ]
  try (rcases h[a]? with _ | ⟨_ | ⟨_ | _, _, _⟩ | _⟩ <;> rfl)
/-! texts -/
def sgQ (a : Str) (k : Nat → Prop) : Prop := match a.cps.toList with
  | [c] => k c
  | _ => False
@[simp] theorem sgQ_one {c : Nat} {k : Nat → Prop} : sgQ ⟨#[c]⟩ k = k c := rfl
def cpQ (o : Option Nat) (k : Nat → Prop) : Prop := match o with
  | some c => k c
  | none => False
@[simp] theorem cpQ_some {c : Nat} {k : Nat → Prop} : cpQ (some c) k = k c := rfl
@[simp ↓] theorem x_sin {a z : Str} : px .sin [.str a, .str z] h Q = sgQ a fun c => Q (.bl (decide (c ∈ z.cps.toList))) h := by
  simp only [px_eq, wpP, sinW, sgQ, bo]
  try (rcases a.cps.toList with _ | ⟨c, _ | _⟩ <;> rfl)
@[simp ↓] theorem x_snotin {a z : Str} : px .snotin [.str a, .str z] h Q = sgQ a fun c => Q (.bl (!decide (c ∈ z.cps.toList))) h := by
  simp only [px_eq, wpP, sinW, sgQ, bon]
  try (rcases a.cps.toList with _ | ⟨c, _ | _⟩ <;> rfl)
@[simp ↓] theorem x_smul {a : Str} {k : Int} : px .smul [.str a, .int k] h Q = ((-(2 ^ 63) ≤ k ∧ k ≤ 1000 ∧ a.length ≤ 1000) ∧ Q (.str (strRep k.toNat a)) h) := by (try simp only [nxt, wx_eq, ws_eq, px_eq]) <;> rfl
@[simp ↓] theorem x_strS {a : Str} : px .strS [.str a] h Q = Q (.str a) h := by (try simp only [nxt, wx_eq, ws_eq, px_eq]) <;> rfl
theorem x_repr {xs : List D} : px .repr [.tup xs] h Q = ((D.pures xs = true ∧ (D.tup xs).pd.showable = true ∧ (D.tup xs).pd.depth ≤ 60 ∧ (D.tup xs).pd.shown.length ≤ sizeLine) ∧ Q (.str (D.tup xs).pd.shown) h) := by (try simp only [nxt, wx_eq, ws_eq, px_eq]) <;> rfl
@[simp ↓] theorem x_lenX {z : Str} : px .len [.str z] h Q = (z.length ≤ sizeLine ∧ Q (.int z.length) h) := by (try simp only [nxt, wx_eq, ws_eq, px_eq]) <;> rfl
@[simp ↓] theorem x_idxX {z : Str} {i : Int} : px .idx [.str z, .int i] h Q = (z.length ≤ sizeLine ∧ cpQ (atI z.cps.toList i) fun c => Q (.str ⟨#[c]⟩) h) := by
  simp only [px_eq, wpP, idxW, cpQ]
  try (rcases atI z.cps.toList i with _ | _ <;> rfl)
@[simp ↓] theorem x_addX {a b : Str} : px .add [.str a, .str b] h Q = (a.length + b.length ≤ sizeLine ∧ Q (.str (a ++ b)) h) := by (try simp only [nxt, wx_eq, ws_eq, px_eq]) <;> rfl
@[simp ↓] theorem it_str {z : Str} {Q : Iter → Hd → Prop} : it Q (.str z) h = (z.length ≤ sizeLine ∧ Q (.vals (chrs z)) h) := rfl
@[simp ↓] theorem i_glob {i : Nat} {Q : Iter → Hd → Prop} : (wx cl gl (.glob i)).i τ h Q = (match gl[i]? with | some (_, d) => it Q d h | none => False) := by
  simp only [wx_eq]
  show (match gl[i]? with | some (_, d) => _ | none => False) = _
  rcases gl[i]? with _ | ⟨_, _⟩ <;> rfl
@[simp ↓] theorem x_popAt {a : Nat} {j : Int} : wpM .popAt (.loc a) [.int j] h Q = lstQ h[a]? fun xs => (-(2 ^ 62) ≤ j ∧ j ≤ 2 ^ 62) ∧ natQ (ixN xs.length j) fun n => atQ xs[n]? (fun y _ => Q y (h.set a (.lst (xs.eraseIdx n)))) h := by
  simp only [wpM, popAtW, lstQ, natQ, atQ]
  try (rcases h[a]? with _ | ⟨_ | _ | _⟩ <;> rfl)
@[simp ↓] theorem ty_popAt {a : Nat} : tyM .popAt h (.loc a) = lstQ h[a]? fun _ => True := by
  simp only [tyM, mutOf, lstOf, lstQ]
  try (rcases h[a]? with _ | ⟨_ | _ | _⟩ <;> simp)
/-! dicts -/
theorem dct_at (a : Nat) (R : List D × List D → Prop) : (match dctOf h (.loc a) with | some p => R p | none => False) = dctQ h[a]? fun ks vs => R (ks, vs) := by
  simp only [dctOf, dctQ]
  try (rcases h[a]? with _ | ⟨_ | ⟨_ | _, _, _⟩ | _⟩ <;> rfl)
@[simp ↓] theorem x_dnew : px .dnew [] h Q = Q (.td false [] []) h := by (try simp only [nxt, wx_eq, ws_eq, px_eq]) <;> rfl
@[simp ↓] theorem m_td {tk : Bool} {ks vs : List D} : mat (.td tk ks vs) h Q = Q (.loc h.length) (h ++ [.dct tk ks vs]) := rfl
@[simp ↓] theorem x_dget {a : Nat} {i : Int} : px .dget [.loc a, .int i] h Q = dctQ h[a]? fun ks vs => atQ (dGet ks vs (.inl i)) Q h := by
  simp only [px_eq, wpP, dgetW, dctOf, dctQ, dkey, atQ]
  try (rcases h[a]? with _ | ⟨_ | ⟨_ | _, _, _⟩ | _⟩ <;> rfl)
@[simp ↓] theorem x_dgetTd {ks vs : List D} {i : Int} : px .dget [.td false ks vs, .int i] h Q = atQ (dGet ks vs (.inl i)) Q h := by (try simp only [px_eq]) <;> rfl
@[simp ↓] theorem x_dgetTdS {ks vs : List D} {i : Str} : px .dget [.td false ks vs, .str i] h Q = atQ (dGet ks vs (.inr i)) Q h := by (try simp only [px_eq]) <;> rfl
@[simp ↓] theorem x_dgetS {a : Nat} {i : Str} : px .dget [.loc a, .str i] h Q = dctQ h[a]? fun ks vs => atQ (dGet ks vs (.inr i)) Q h := by
  simp only [px_eq, wpP, dgetW, dctOf, dctQ, dkey, atQ]
  try (rcases h[a]? with _ | ⟨_ | ⟨_ | _, _, _⟩ | _⟩ <;> rfl)
@[simp ↓] theorem x_din {a : Nat} {i : Int} : px .din [.int i, .loc a] h Q = dctQ h[a]? fun ks vs => Q (.bl (dGet ks vs (.inl i)).isSome) h := by
  simp only [px_eq, wpP, dinW, dctOf, dctQ, dkey, bo]
  try (rcases h[a]? with _ | ⟨_ | ⟨_ | _, _, _⟩ | _⟩ <;> rfl)
@[simp ↓] theorem x_dinS {a : Nat} {i : Str} : px .din [.str i, .loc a] h Q = dctQ h[a]? fun ks vs => Q (.bl (dGet ks vs (.inr i)).isSome) h := by
  simp only [px_eq, wpP, dinW, dctOf, dctQ, dkey, bo]
  try (rcases h[a]? with _ | ⟨_ | ⟨_ | _, _, _⟩ | _⟩ <;> rfl)
@[simp ↓] theorem x_dnotin {a : Nat} {i : Int} : px .dnotin [.int i, .loc a] h Q = dctQ h[a]? fun ks vs => Q (.bl (!(dGet ks vs (.inl i)).isSome)) h := by
  simp only [px_eq, wpP, dinW, dctOf, dctQ, dkey, bon]
  try (rcases h[a]? with _ | ⟨_ | ⟨_ | _, _, _⟩ | _⟩ <;> rfl)
@[simp ↓] theorem x_dnotinS {a : Nat} {i : Str} : px .dnotin [.str i, .loc a] h Q = dctQ h[a]? fun ks vs => Q (.bl (!(dGet ks vs (.inr i)).isSome)) h := by
  simp only [px_eq, wpP, dinW, dctOf, dctQ, dkey, bon]
  try (rcases h[a]? with _ | ⟨_ | ⟨_ | _, _, _⟩ | _⟩ <;> rfl)
@[simp ↓] theorem x_dlen {a : Nat} : px .dlen [.loc a] h Q = dctQ h[a]? fun ks _ => Q (.int ks.length) h := by
  simp only [px_eq, wpP, dlenW, dctOf, dctQ]
  try (rcases h[a]? with _ | ⟨_ | ⟨_ | _, _, _⟩ | _⟩ <;> rfl)
@[simp ↓] theorem x_lrng {n : Int} : px .lrng [.int n] h Q = ((-(2 ^ 62) ≤ n ∧ n ≤ 2 ^ 24) ∧ Q (.tl ((List.range n.toNat).map fun (i : Nat) => D.int (0 + (i : Int)))) h) := by (try simp only [nxt, wx_eq, ws_eq, px_eq]) <;> rfl
@[simp ↓] theorem x_augI {i j : Int} : augW .add (.int i) (.int j) h Q = Q (.int (i + j)) h := rfl
@[simp ↓] theorem x_augS {i j : Int} : augW .sub (.int i) (.int j) h Q = Q (.int (i - j)) h := rfl
@[simp ↓] theorem x_augM {i j : Int} : augW .mul (.int i) (.int j) h Q = (mulOk i j ∧ Q (.int (i * j)) h) := rfl
@[simp ↓] theorem x_augT {a b : List D} : augW .add (.tup a) (.tup b) h Q = (a.length + b.length ≤ sizeLine ∧ Q (.tup (a ++ b)) h) := rfl
@[simp ↓] theorem x_augX {a b : Str} : augW .add (.str a) (.str b) h Q = (a.length + b.length ≤ sizeLine ∧ Q (.str (a ++ b)) h) := rfl
end
/-! ### loops -/
theorem for_inv {ok : Hd → Prop} {p : Pat} {body : TSd} {Z : Endd} (I : Nat → Sd → Hd → Prop) {xs : List D} {τ : Sd} {h : Hd} (h0 : I 0 τ h)
    (step : ∀ (i : Nat) (x : D) (τ : Sd) (h : Hd) (k : Sd → Hd → Prop), xs[i]? = some x → I i τ h → (∀ τ' h', I (i + 1) τ' h' → k τ' h') → ok h ∧ bindW p x τ fun τ' => body ⟨k, Z.rt, Z.nx, k⟩ τ' h)
    (done : ∀ τ h, I xs.length τ h → ok h ∧ Z.nx τ h) : forW ok p body Z xs τ h := by
  have key : ∀ (m i : Nat) (τ : Sd) (h : Hd), i + m = xs.length → I i τ h → forW ok p body Z (xs.drop i) τ h := by
    intro m
    induction m with
    | zero =>
      intro i τ h e q
      have e : i = xs.length := by omega
      subst e
      rw [List.drop_length]
      exact done τ h q
    | succ m ih =>
      intro i τ h e q
      have hi : i < xs.length := by omega
      rw [List.drop_eq_getElem_cons hi]
      exact step i _ τ h _ (List.getElem?_eq_getElem hi) q fun τ' h' q' => ih (i + 1) τ' h' (by omega) q'
  exact key xs.length 0 τ h (by omega) h0
theorem range_get {lo : Int} {n i : Nat} {x : D} (e : (rangeD lo n)[i]? = some x) : i < n ∧ x = .int (lo + i) := by
  unfold rangeD at e
  rw [List.getElem?_map] at e
  by_cases hi : i < n
  · rw [List.getElem?_range hi] at e
    cases e
    exact ⟨hi, rfl⟩
  · rw [List.getElem?_eq_none (by simpa using hi)] at e
    cases e
@[simp] theorem range_len {lo : Int} {n : Nat} : (rangeD lo n).length = n := by simp [rangeD]
/-- for i in range(..) -/
theorem for_range {ok : Hd → Prop} {v : Nat} {body : TSd} {Z : Endd} (I : Nat → Sd → Hd → Prop) {lo : Int} {n : Nat} {τ : Sd} {h : Hd} (h0 : I 0 τ h) (hok : ∀ h, ok h)
    (step : ∀ (i : Nat) (τ : Sd) (h : Hd) (k : Sd → Hd → Prop), i < n → I i τ h → (∀ τ' h', I (i + 1) τ' h' → k τ' h') → body ⟨k, Z.rt, Z.nx, k⟩ (τ.set v (some (.int (lo + i)))) h)
    (done : ∀ τ h, I n τ h → Z.nx τ h) : forW ok (.nm v) body Z (rangeD lo n) τ h := by
  refine for_inv I h0 (fun i x τ h k e q w => ?_) (fun τ h q => ⟨hok h, done τ h (by simpa using q)⟩)
  obtain ⟨hi, rfl⟩ := range_get e
  exact ⟨hok h, step i τ h k hi q w⟩
/-- a comprehension that leaves the heap -/
theorem comp_map {ok : Hd → Prop} {p : Pat} {cond : TTd} {elt : TEd} {τ : Sd} {Q : List D → Hd → Prop} {h : Hd} (c : D → Bool) (g : D → D) {xs : List D} (acc : List D) (hl : xs.length + acc.length ≤ sizeLine) (hok : ok h)
    (step : ∀ x ∈ xs, ∀ (k : D → Hd → Prop) (s : Hd → Prop), (if c x = true then k (g x) h else s h) → bindW p x τ fun τ' => cond τ' h fun b h1 => if b = true then elt τ' h1 fun y h2 => mat y h2 k else s h1)
    (q : Q (acc ++ (xs.filter c).map g) h) : compW ok p cond elt τ Q xs acc h := by
  induction xs generalizing acc with
  | nil => simp only [compW]; exact ⟨hok, by simpa using q⟩
  | cons x xs ih =>
    simp only [compW]
    refine ⟨hok, step x List.mem_cons_self _ _ ?_⟩
    have st := fun y (hy : y ∈ xs) => step y (List.mem_cons_of_mem _ hy)
    rw [List.length_cons] at hl
    split
    · rename_i hc
      refine ⟨by omega, ih (acc ++ [g x]) (by rw [List.length_append]; simp; omega) st ?_⟩
      simpa [hc] using q
    · rename_i hc
      exact ih acc (by omega) st (by simpa [hc] using q)
theorem comp_all {ok : Hd → Prop} {p : Pat} {elt : TEd} {τ : Sd} {Q : List D → Hd → Prop} {h : Hd} (g : D → D) {xs : List D} (hl : xs.length ≤ sizeLine) (hok : ok h)
    (step : ∀ x ∈ xs, ∀ (k : D → Hd → Prop), k (g x) h → bindW p x τ fun τ' => elt τ' h fun y h2 => mat y h2 k)
    (q : Q (xs.map g) h) : compW ok p yesT elt τ Q xs [] h := by
  refine comp_map (fun _ => true) g [] (by simpa using hl) hok (fun x hx k s w => ?_) ?_
  · simp only [if_true] at w
    simp only [yesT, if_true]
    exact step x hx k w
  · have e : xs.filter (fun _ => true) = xs := List.filter_eq_self.mpr fun _ _ => rfl
    rw [e]
    exact q
theorem gc_tl {h h' : Hd} {k : Nat} {xs : List D} {Q : PD} (hk : h.length ≤ k) (e : h'[k]? = some (.lst xs)) (c : D.cleans h.length xs) (g : gcOK h h') (q : Q (.tl xs) (h'.take h.length)) : Gc h (.loc k) h' Q := .inr (.inr ⟨k, xs, rfl, hk, e, c, g, q⟩)
theorem cleans_ints {n : Nat} : ∀ xs : List Int, D.cleans n (xs.map D.int)
  | [] => trivial
  | _ :: xs => by simp only [List.map_cons, D.cleans, D.clean, true_and]; exact cleans_ints xs
theorem gc_nil {h : Hd} : gcOK [] h := ⟨Nat.zero_le _, fun i o a _ => absurd a (Nat.not_lt_zero _)⟩
end Py

namespace Py
open PySem PySem.Spec PyProof.Rows L2

/-! ### the laws' own defs -/
def cDB : CS :=
  (.seq (.asg (.nm 7) (.prim .mod (.acons (.var 6) (.acons (.prim .len (.acons (.var 2) .anil)) .anil))))
  (.seq (.ite (.and_ (.prim .ge (.acons (.prim .idx (.acons (.var 2) (.acons (.var 7) .anil))) (.acons (.prim .pow (.acons (.cst (.int 10)) (.acons (.cst (.int 18)) .anil))) .anil))) (.prim .gt (.acons (.prim .idx (.acons (.var 4) (.acons (.var 7) .anil))) (.acons (.cst (.int 0)) .anil))))
    (.seq (.expr (.meth .append (.var 5) (.acons (.prim .mod (.acons (.prim .int1 (.acons (.prim .idx (.acons (.var 4) (.acons (.var 7) .anil))) .anil)) (.acons (.cst (.int 1000)) .anil))) .anil)))
    (.seq (.setIdx (.var 4) (.var 7) (.prim .fdiv (.acons (.prim .idx (.acons (.var 4) (.acons (.var 7) .anil))) (.acons (.cst (.int 1000)) .anil))))
    .nil))
    (.seq (.asg (.nm 8) (.prim .mod (.acons (.prim .int1 (.acons (.prim .add (.acons (.prim .add (.acons (.prim .mul (.acons (.prim .idx (.acons (.var 2) (.acons (.var 7) .anil))) (.acons (.cst (.int 48271)) .anil))) (.acons (.prim .mul (.acons (.var 6) (.acons (.cst (.int 69621)) .anil))) .anil))) (.acons (.cst (.int 11)) .anil))) .anil)) (.acons (.cst (.int 2147483647)) .anil))))
    (.seq (.expr (.meth .append (.var 5) (.acons (.prim .mod (.acons (.prim .int1 (.acons (.prim .add (.acons (.prim .add (.acons (.prim .mul (.acons (.var 8) (.acons (.var 8) .anil))) (.acons (.prim .mul (.acons (.cst (.int 3)) (.acons (.var 8) .anil))) .anil))) (.acons (.var 6) .anil))) .anil)) (.acons (.cst (.int 1000003)) .anil))) .anil)))
    .nil)))
  .nil))
def cDT : CS :=
  (.seq (.asg (.nm 4) (.prim .list (.acons (.var 2) .anil)))
  (.seq (.asg (.nm 5) (.lst .anil))
  (.seq (.forr (.nm 6) (.r1 (.var 1)) cDB)
  (.seq (.expr (.prim .reverse (.acons (.var 5) .anil)))
  (.seq (.ret (.var 5))
  .nil)))))
def cDraws1 : CS :=
  (.seq (.asg (.nm 2) (.prim .add (.acons (.comp (.nm 3) (.var 0) none .anil (.prim .int1 (.acons (.var 3) .anil))) (.acons (.prim .mul (.acons (.lst (.acons (.cst (.int 0)) .anil)) (.acons (.prim .int1 (.acons (.prim .eq (.acons (.prim .len (.acons (.var 0) .anil)) (.acons (.cst (.int 0)) .anil))) .anil)) .anil))) .anil)))) cDT)
def cDraws2 : CS :=
  (.seq (.asg (.nm 2) (.comp (.nm 3) (.var 0) none .anil (.prim .int1 (.acons (.var 3) .anil))))
  (.seq (.ite (.prim .eq (.acons (.prim .len (.acons (.var 2) .anil)) (.acons (.cst (.int 0)) .anil)))
    (.seq (.expr (.meth .append (.var 2) (.acons (.cst (.int 0)) .anil)))
    .nil)
    .nil)
  cDT))
def cTake : CS :=
  (.seq (.ite (.prim .eq (.acons (.prim .len (.acons (.var 0) .anil)) (.acons (.cst (.int 0)) .anil)))
    (.seq (.ret (.cst (.int 0)))
    .nil)
    .nil)
  (.seq (.ret (.prim .mod (.acons (.prim .int1 (.acons (.prim .pop (.acons (.var 0) .anil)) .anil)) (.acons (.var 1) .anil))))
  .nil))
def cSame (f : Nat) : CS :=
  (.seq (.ite (.prim .is_ (.acons (.var 1) (.acons (.cst .non) .anil)))
    (.seq (.ret (.prim .is_ (.acons (.var 0) (.acons (.cst .non) .anil))))
    .nil)
    .nil)
  (.seq (.ite (.prim (.inst "bool") (.acons (.var 1) .anil))
    (.seq (.ret (.and_ (.prim (.inst "bool") (.acons (.var 0) .anil)) (.prim .eq (.acons (.var 0) (.acons (.var 1) .anil)))))
    .nil)
    .nil)
  (.seq (.ite (.prim (.inst "int") (.acons (.var 1) .anil))
    (.seq (.ret (.and_ (.prim (.inst "int") (.acons (.var 0) .anil)) (.and_ (.not_ (.prim (.inst "bool") (.acons (.var 0) .anil))) (.prim .eq (.acons (.var 0) (.acons (.var 1) .anil))))))
    .nil)
    .nil)
  (.seq (.ite (.prim (.inst "str") (.acons (.var 1) .anil))
    (.seq (.ret (.and_ (.prim (.inst "str") (.acons (.var 0) .anil)) (.prim .eq (.acons (.var 0) (.acons (.var 1) .anil)))))
    .nil)
    .nil)
  (.seq (.ite (.or_ (.not_ (.prim (.inst "tuple") (.acons (.var 0) .anil))) (.prim .ne (.acons (.prim .len (.acons (.var 0) .anil)) (.acons (.prim .len (.acons (.var 1) .anil)) .anil))))
    (.seq (.ret (.cst (.bl false)))
    .nil)
    .nil)
  (.seq (.forr (.nm 2) (.r1 (.prim .len (.acons (.var 1) .anil)))
    (.seq (.ite (.not_ (.call f (.acons (.prim .idx (.acons (.var 0) (.acons (.var 2) .anil))) (.acons (.prim .idx (.acons (.var 1) (.acons (.var 2) .anil))) .anil))))
      (.seq (.ret (.cst (.bl false)))
      .nil)
      .nil)
    .nil))
  (.seq (.ret (.cst (.bl true)))
  .nil)))))))
section
variable {ex : XD} {gl : List (Str × D)} {F : List FD} {f d : Nat} {x1 x2 x3 x4 x5 x6 x7 x8 x9 x10 : Str} {st : Stmt}
theorem atI_ints {xs : List Int} {i : Int} {n : Nat} (h0 : 0 ≤ i) (h1 : i < n) (hl : xs.length = n) : atI (xs.map D.int) i = some (.int (xs.getD i.toNat 0)) := by
  unfold atI ixN
  rw [List.length_map, if_pos h0, if_pos (by omega)]
  have : i.toNat < xs.length := by omega
  simp [this, List.getD]
theorem take_spec {a : Nat} {xs : List Int} {m : Int} {h : Hd} {Q : PD} (hf : F[f]? = some ⟨x1, [x2, x3], [x4, x5], st, cTake⟩) (hm : 0 < m) (he : h[a]? = some (.lst (xs.map D.int))) (q : ∀ (r : Int) (ys : List Int), 0 ≤ r → r < m → Q (.int r) (h.set a (.lst (ys.map D.int)))) :
    wpCall gl F (d+1) f [.loc a, .int m] h Q ex := by
  refine call_of hf rfl ?_
  simp [startD, cTake, he]
  rcases List.eq_nil_or_concat xs with rfl | ⟨ys, y, rfl⟩
  · simp
    have := q 0 [] (Int.le_refl _) hm
    have e : h.set a (.lst ([].map D.int)) = h := by
      apply List.ext_getElem?
      intro i
      rw [List.getElem?_set]
      split
      · rename_i z; subst z
        split
        · exact he.symm
        · rename_i w; rw [List.getElem?_eq_none (by omega)]
      · rfl
    rw [e] at this
    refine nxt_of ?_
    simp
    exact gc_same this
  · simp
    refine nxt_of ?_
    simp [he]
    refine ⟨by omega, ?_⟩
    exact gc_same (q _ ys (Int.fmod_nonneg_of_pos _ hm) (Int.fmod_lt_of_pos _ hm))
def DI (s : List D) (m : Nat) (cs : List Int) (i : Nat) (τ : Sd) (h : Hd) : Prop := ∃ (rs ds : List Int) (t1 t2 t3 : Option D), τ = [some (.rl s), some (.int m), some (.loc 0), none, some (.loc 1), some (.loc 2), t1, t2, t3] ∧ h = [.lst (cs.map D.int), .lst (rs.map D.int), .lst (ds.map D.int)] ∧ rs.length = cs.length ∧ ds.length ≤ i
theorem DI.app {s : List D} {m : Nat} {cs rs ds : List Int} {i : Nat} {x : Int} {t1 t2 t3 : Option D} (hl : rs.length = cs.length) (hd : ds.length ≤ i) :
    DI s m cs (i + 1) [some (.rl s), some (.int m), some (.loc 0), none, some (.loc 1), some (.loc 2), t1, t2, t3] [.lst (cs.map D.int), .lst (rs.map D.int), .lst (ds.map D.int ++ [.int x])] :=
  ⟨rs, ds ++ [x], t1, t2, t3, rfl, by rw [List.map_append]; rfl, hl, by simpa using hd⟩
theorem DI.app2 {s : List D} {m n : Nat} {cs rs ds : List Int} {i : Nat} {x y : Int} {t1 t2 t3 : Option D} (hl : rs.length = cs.length) (hd : ds.length ≤ i) :
    DI s m cs (i + 1) [some (.rl s), some (.int m), some (.loc 0), none, some (.loc 1), some (.loc 2), t1, t2, t3] [.lst (cs.map D.int), .lst ((rs.map D.int).set n (.int y)), .lst (ds.map D.int ++ [.int x])] :=
  ⟨rs.set n y, ds ++ [x], t1, t2, t3, rfl, by rw [List.map_append, List.map_set]; rfl, by simpa using hl, by simpa using hd⟩
theorem draws_tail {cl : CallD} {s : List D} {m : Nat} {cs : List Int} {Q : PD} (hm : m ≤ 100000) (hc : cs ≠ []) (q : ∀ xs : List Int, Q (.tl (xs.map D.int)) []) :
    ws cl gl cDT (endZ [] Q) [some (.rl s), some (.int m), some (.loc 0), none, none, none, none, none, none] [.lst (cs.map D.int)] := by
  have hL : 0 < cs.length := List.length_pos_iff.mpr hc
  simp [cDT]
  refine nxt_of ?_
  simp
  refine nxt_of ?_
  simp
  refine ⟨by omega, ?_⟩
  refine for_range (DI s m cs)
    ⟨cs, [], _, _, _, rfl, rfl, rfl, Nat.le_refl _⟩ (fun _ => trivial) ?_ ?_
  · rintro i τ h k hi ⟨rs, ds, t1, t2, t3, rfl, rfl, hl, hd⟩ hk
    have hz : sizeLine > 200000 := by decide
    simp [cDB]
    refine ⟨by omega, ?_⟩
    refine nxt_of ?_
    have p0 : (0 : Int) ≤ Int.fmod i cs.length := Int.fmod_nonneg_of_pos _ (by omega)
    have p1 : Int.fmod i cs.length < cs.length := Int.fmod_lt_of_pos _ (by omega)
    generalize Int.fmod (i : Int) cs.length = w at p0 p1
    simp [atI_ints p0 p1 rfl, atI_ints p0 p1 hl]
    have e2 : ∀ (τ : Sd) (h : Hd), DI s m cs (i + 1) τ h → k τ h := fun τ h z => hk τ h z
    have rule2 : ∀ x : Int, mulOk x 48271 := fun x => .inl (.inr ⟨by decide, by decide⟩)
    have rule3 : mulOk (i : Int) 69621 := .inl (.inr ⟨by decide, by decide⟩)
    have elseB : ∀ y : Int, 0 ≤ y → y < 2147483647 → mulOk y y ∧ mulOk 3 y ∧ ds.length < sizeLine := fun y y0 y1 => ⟨.inl (.inr ⟨by omega, by omega⟩), .inl (.inr ⟨by omega, by omega⟩), by omega⟩
    have b0 : ∀ z : Int, 0 ≤ Int.fmod z 2147483647 := fun z => Int.fmod_nonneg_of_pos _ (by decide)
    have b1 : ∀ z : Int, Int.fmod z 2147483647 < 2147483647 := fun z => Int.fmod_lt_of_pos _ (by decide)
    have hn : ixN rs.length w = some w.toNat := by
      unfold ixN
      rw [if_pos p0, if_pos (by omega)]
    have elseP : ∀ Z2 : Endd, Z2.nx = k → nxt cl gl (.seq (.asg (.nm 8) (.prim .mod (.acons (.prim .int1 (.acons (.prim .add (.acons (.prim .add (.acons (.prim .mul (.acons (.prim .idx (.acons (.var 2) (.acons (.var 7) .anil))) (.acons (.cst (.int 48271)) .anil))) (.acons (.prim .mul (.acons (.var 6) (.acons (.cst (.int 69621)) .anil))) .anil))) (.acons (.cst (.int 11)) .anil))) .anil)) (.acons (.cst (.int 2147483647)) .anil))))
      (.seq (.expr (.meth .append (.var 5) (.acons (.prim .mod (.acons (.prim .int1 (.acons (.prim .add (.acons (.prim .add (.acons (.prim .mul (.acons (.var 8) (.acons (.var 8) .anil))) (.acons (.prim .mul (.acons (.cst (.int 3)) (.acons (.var 8) .anil))) .anil))) (.acons (.var 6) .anil))) .anil)) (.acons (.cst (.int 1000003)) .anil))) .anil))) .nil)) Z2 [some (.rl s), some (.int m), some (.loc 0), none, some (.loc 1), some (.loc 2), some (.int i), some (.int w), t3] [.lst (cs.map D.int), .lst (rs.map D.int), .lst (ds.map D.int)] := by
      intro Z2 hZ
      refine nxt_of ?_
      simp [atI_ints p0 p1 rfl, hZ]
      refine ⟨rule2 _, rule3, ?_⟩
      generalize hy : Int.fmod _ (2147483647 : Int) = y
      refine nxt_of ?_
      simp [hZ]
      obtain ⟨r1, r2, r3⟩ := elseB y (hy ▸ b0 _) (hy ▸ b1 _)
      exact ⟨r1, r2, by omega, e2 _ _ (DI.app hl hd)⟩
    split
    · split
      · refine nxt_of ?_
        simp [atI_ints p0 p1 hl]
        refine ⟨by omega, ?_⟩
        refine nxt_of ?_
        simp [atI_ints p0 p1 hl, hn]
        exact ⟨⟨by decide, by decide⟩, e2 _ _ (DI.app2 hl hd)⟩
      · exact elseP _ rfl
    · exact elseP _ rfl
  · rintro τ h ⟨rs, ds, t1, t2, t3, rfl, rfl, hl, hd⟩
    refine nxt_of ?_
    simp
    refine nxt_of ?_
    simp
    rw [← List.map_reverse]
    exact gc_tl (xs := ds.reverse.map D.int) (Nat.zero_le _) (by rfl) (cleans_ints _) gc_nil (q _)
theorem comp_ints {cl : CallD} {τ : Sd} {h : Hd} {ns : List Int} {Q : List D → Hd → Prop} (hl : ns.length ≤ 1000) (q : Q (ns.map D.int) h) (e : τ.length = 9) :
    compW (Iter.vals (ns.map D.int)).ok (.nm 3) yesT (wx cl gl (.prim .int1 (.acons (.var 3) .anil))).e τ Q (ns.map D.int) [] h := by
  have hz : sizeLine > 200000 := by decide
  refine comp_all (fun x => x) (by rw [List.length_map]; omega) trivial (fun x hx k w => ?_) (by rw [List.map_id']; exact q)
  obtain ⟨n, _, rfl⟩ := List.mem_map.mp hx
  have e3 : (τ.set 3 (some (D.int n)))[3]? = some (some (D.int n)) := by rw [List.getElem?_set_self (by omega)]
  simp [e3]
  exact w
theorem draws1_spec {ns : List Int} {m : Nat} {Q : PD} {ps N : List Str} (hf : F[f]? = some ⟨x1, ps, N, st, cDraws1⟩) (hp : ps.length = 2) (hN : N.length = 9) (hn : ns.length ≤ 63) (hm : m ≤ 100000) (q : ∀ xs : List Int, Q (.tl (xs.map D.int)) []) :
    wpCall gl F (d+1) f [.rl (ns.map D.int), .int m] [] Q ex := by
  have hz : sizeLine > 200000 := by decide
  refine call_of hf (by simp [hp]) ?_
  simp [startD, cDraws1, hN]
  refine comp_ints (by omega) ?_ rfl
  simp
  have tail := fun (cs : List Int) (h : cs ≠ []) => draws_tail (gl := gl) (cl := ⟨wpCall gl F d, gcX [] ex⟩) (s := ns.map D.int) hm h q
  by_cases h0 : ns = []
  · subst h0
    simp
    refine ⟨by omega, by omega, by omega, nxt_of ?_⟩
    exact tail [0] (by simp)
  · have h1 : ns.length ≠ 0 := fun z => h0 (List.length_eq_zero_iff.mp z)
    simp [h0]
    refine ⟨by omega, by omega, nxt_of ?_⟩
    exact tail ns h0
theorem draws2_spec {ns : List Int} {m : Nat} {Q : PD} {ps N : List Str} (hf : F[f]? = some ⟨x1, ps, N, st, cDraws2⟩) (hp : ps.length = 2) (hN : N.length = 9) (hn : ns.length ≤ 63) (hm : m ≤ 100000) (q : ∀ xs : List Int, Q (.tl (xs.map D.int)) []) :
    wpCall gl F (d+1) f [.rl (ns.map D.int), .int m] [] Q ex := by
  have hz : sizeLine > 200000 := by decide
  refine call_of hf (by simp [hp]) ?_
  simp [startD, cDraws2, hN]
  refine comp_ints (by omega) ?_ rfl
  have tail := fun (cs : List Int) (h : cs ≠ []) => draws_tail (gl := gl) (cl := ⟨wpCall gl F d, gcX [] ex⟩) (s := ns.map D.int) hm h q
  simp
  refine nxt_of ?_
  simp
  by_cases h0 : ns = []
  · subst h0
    simp
    refine nxt_of ?_
    simp
    refine ⟨by omega, nxt_of ?_⟩
    exact tail [0] (by simp)
  · simp [h0]
    exact nxt_of (tail ns h0)
/-! _law_same -/
theorem same_int {i j : Int} {h : Hd} {Q : PD} {ps N : List Str} (hf : F[f]? = some ⟨x1, ps, N, st, cSame f⟩) (hp : ps.length = 2) (hN : N.length = 3) (q : Q (.bl (decide (i = j))) h) : wpCall gl F (d+1) f [.int i, .int j] h Q ex := by
  refine call_of hf (by simp [hp]) ?_
  simp [startD, cSame, hN, isNonD]
  refine nxt_of ?_
  simp
  refine nxt_of ?_
  simp
  refine nxt_of ?_
  simp
  exact gc_same q
theorem same_bool {i j : Bool} {h : Hd} {Q : PD} {ps N : List Str} (hf : F[f]? = some ⟨x1, ps, N, st, cSame f⟩) (hp : ps.length = 2) (hN : N.length = 3) (q : Q (.bl (decide (i = j))) h) : wpCall gl F (d+1) f [.bl i, .bl j] h Q ex := by
  refine call_of hf (by simp [hp]) ?_
  simp [startD, cSame, hN, isNonD]
  refine nxt_of ?_
  simp
  refine nxt_of ?_
  simp
  exact gc_same q
theorem same_non {x : D} {h : Hd} {Q : PD} {ps N : List Str} (hf : F[f]? = some ⟨x1, ps, N, st, cSame f⟩) (hp : ps.length = 2) (hN : N.length = 3) (q : Q (.bl (isNonD x)) h) : wpCall gl F (d+1) f [x, .non] h Q ex := by
  refine call_of hf (by simp [hp]) ?_
  simp [startD, cSame, hN, isNonD]
  refine nxt_of ?_
  simp
  exact gc_same q
theorem same_str {i j : Str} {h : Hd} {Q : PD} {ps N : List Str} (hf : F[f]? = some ⟨x1, ps, N, st, cSame f⟩) (hp : ps.length = 2) (hN : N.length = 3) (q : Q (.bl (decide (i = j))) h) : wpCall gl F (d+1) f [.str i, .str j] h Q ex := by
  refine call_of hf (by simp [hp]) ?_
  simp [startD, cSame, hN, isNonD]
  refine nxt_of ?_
  simp
  refine nxt_of ?_
  simp
  refine nxt_of ?_
  simp
  refine nxt_of ?_
  simp
  exact gc_same q
/-- two tuples whose parts answer as they should -/
theorem same_tup {xs ys : List D} {h : Hd} {Q : PD} {ps N : List Str} (hf : F[f]? = some ⟨x1, ps, N, st, cSame f⟩) (hp : ps.length = 2) (hN : N.length = 3) (hl : xs.length = ys.length) (hs : ys.length ≤ 100000)
    (hx : ∀ (i : Nat) (x y : D), xs[i]? = some x → ys[i]? = some y → mat x h = (fun Q => Q x h) ∧ mat y h = (fun Q => Q y h) ∧ ∀ (Q : PD) (ex : XD), Q (.bl true) h → wpCall gl F d f [x, y] h Q ex)
    (q : Q (.bl true) h) : wpCall gl F (d+1) f [.tup xs, .tup ys] h Q ex := by
  have hz : sizeLine > 200000 := by decide
  refine call_of hf (by simp [hp]) ?_
  simp [startD, cSame, hN, isNonD]
  refine nxt_of ?_
  simp
  refine nxt_of ?_
  simp
  refine nxt_of ?_
  simp
  refine nxt_of ?_
  simp [hl]
  refine nxt_of ?_
  simp
  refine ⟨by omega, ?_⟩
  refine for_range (fun i τ h' => h' = h ∧ ∃ t, τ = [some (.tup xs), some (.tup ys), t]) ⟨rfl, _, rfl⟩ (fun _ => trivial) ?_ ?_
  · rintro i τ h' k hi ⟨rfl, t, rfl⟩ hk
    have e1 : atI xs ((0 : Int) + i) = some xs[i] := by
      unfold atI ixN
      rw [if_pos (by omega), if_pos (by omega)]
      simp
    have e2 : atI ys ((0 : Int) + i) = some ys[i] := by
      unfold atI ixN
      rw [if_pos (by omega), if_pos (by omega)]
      simp
    obtain ⟨m1, m2, hc⟩ := hx i xs[i] ys[i] (List.getElem?_eq_getElem (by omega)) (List.getElem?_eq_getElem hi)
    have e1 : atI xs (i : Int) = some xs[i] := by simpa using e1
    have e2 : atI ys (i : Int) = some ys[i] := by simpa using e2
    simp [e1, e2, m1, m2]
    refine hc _ _ ?_
    simp
    exact hk _ _ ⟨rfl, _, rfl⟩
  · rintro τ h' ⟨rfl, t, rfl⟩
    refine nxt_of ?_
    simp
    exact gc_same q
theorem same_pair {a b : Int} {h : Hd} {Q : PD} {ps N : List Str} (hf : F[f]? = some ⟨x1, ps, N, st, cSame f⟩) (hp : ps.length = 2) (hN : N.length = 3) (q : Q (.bl true) h) : wpCall gl F (d+2) f [.tup [.int a, .int b], .tup [.int a, .int b]] h Q ex := by
  refine same_tup hf hp hN rfl (by simp) (fun i x y h1 h2 => ?_) q
  rw [h1] at h2
  cases h2
  have hx : ∃ n, x = .int n := by
    match i, h1 with
    | 0, h1 => cases h1; exact ⟨_, rfl⟩
    | 1, h1 => cases h1; exact ⟨_, rfl⟩
  obtain ⟨n, rfl⟩ := hx
  exact ⟨rfl, rfl, fun Q ex q => same_int hf hp hN (by simpa using q)⟩
/-- data: a tree of None, truths, numbers, texts, tuples, less than n deep -/
def data : Nat → D → Prop
  | 0, _ => False
  | n + 1, .tup xs => xs.length ≤ 100000 ∧ ∀ x ∈ xs, data n x
  | _ + 1, .non => True
  | _ + 1, .bl _ => True
  | _ + 1, .int _ => True
  | _ + 1, .str _ => True
  | _ + 1, _ => False
theorem data_mat {n : Nat} {x : D} {h : Hd} (dx : data n x) : mat x h = (fun Q => Q x h) := by
  cases n with
  | zero => exact dx.elim
  | succ n => cases x <;> first | rfl | exact dx.elim
theorem same_refl {ps N : List Str} (hf : F[f]? = some ⟨x1, ps, N, st, cSame f⟩) (hp : ps.length = 2) (hN : N.length = 3) : ∀ (n : Nat) (a : D), data n a → ∀ {h : Hd} {Q : PD} {ex : XD}, Q (.bl true) h → wpCall gl F (d+n) f [a, a] h Q ex
  | 0, _, z, _, _, _, _ => z.elim
  | n + 1, .non, _, _, _, _, q => same_non (d := d+n) hf hp hN q
  | n + 1, .bl b, _, _, _, _, q => same_bool (d := d+n) hf hp hN (by simpa using q)
  | n + 1, .int i, _, _, _, _, q => same_int (d := d+n) hf hp hN (by simpa using q)
  | n + 1, .str x, _, _, _, _, q => same_str (d := d+n) hf hp hN (by simpa using q)
  | n + 1, .tup xs, z, _, _, _, q => by
    refine same_tup (d := d+n) hf hp hN rfl z.1 (fun i x y h1 h2 => ?_) q
    rw [h1] at h2
    cases h2
    have dx := z.2 x (List.mem_of_getElem? h1)
    exact ⟨data_mat dx, data_mat dx, fun Q ex q => same_refl hf hp hN n x dx q⟩
  | _ + 1, .loc _, z, _, _, _, _ => z.elim
  | _ + 1, .tl _, z, _, _, _, _ => z.elim
  | _ + 1, .td _ _ _, z, _, _, _, _ => z.elim
  | _ + 1, .rl _, z, _, _, _, _ => z.elim
end
end Py

namespace Py
open PySem PySem.Spec PyProof.Rows L2

/-! ### more rules of reading -/
/-- a call's end: what it laid behind the heap goes -/
theorem gc_app {h l : Hd} {v : D} {Q : PD} (c : v.clean h.length) (q : Q v h) : Gc h v (h ++ l) Q := by
  refine .inr (.inl ⟨c, ⟨by simp, fun i o hi e => .inl ?_⟩, ?_⟩)
  · rw [List.getElem?_append_left hi] at e
    exact e
  · rw [List.take_left']
    · exact q
    · rfl
theorem gc_app_tl {h l : Hd} {k : Nat} {xs : List D} {Q : PD} (hk : h.length ≤ k) (e : (h ++ l)[k]? = some (.lst xs)) (c : D.cleans h.length xs) (q : Q (.tl xs) h) : Gc h (.loc k) (h ++ l) Q := by
  refine gc_tl hk e c ⟨by simp, fun i o hi e => .inl ?_⟩ ?_
  · rw [List.getElem?_append_left hi] at e
    exact e
  · rw [List.take_left']
    · exact q
    · rfl
section
variable {cl : CallD} {gl : List (Str × D)} {τ : Sd} {h : Hd} {Q : PD}
theorem look_app {h l : Hd} {a : Nat} {o : DO} (e : h[a]? = some o) : (h ++ l)[a]? = some o := by
  rw [List.getElem?_append_left (List.getElem?_eq_some_iff.mp e).1]; exact e
theorem look_here {h l : Hd} {o : DO} : (h ++ o :: l)[h.length]? = some o := by simp
@[simp] theorem look_next {h l : Hd} {o p : DO} : (h ++ o :: p :: l)[h.length + 1]? = some p := by simp
theorem seqOf_app {h l : Hd} {x : D} {xs : List D} (e : seqOf h x = some xs) : seqOf (h ++ l) x = some xs := by
  cases x with
  | loc a =>
    simp only [seqOf, lstOf] at e ⊢
    split at e
    · rename_i ys e2
      rw [look_app e2]
      exact e
    · cases e
  | _ => exact e
/-! lists of numbers, of truths -/
theorem blsOf_map {α : Type} (f : α → Bool) : ∀ as : List α, blsOf (as.map fun a => D.bl (f a)) = some (as.map f)
  | [] => rfl
  | a :: as => by simp only [List.map_cons, blsOf, blsOf_map f as]
theorem intsOf_map {α : Type} (f : α → Int) : ∀ as : List α, intsOf (as.map fun a => D.int (f a)) = some (as.map f)
  | [] => rfl
  | a :: as => by simp only [List.map_cons, intsOf, intsOf_map f as]
theorem intsOf_ints (ns : List Int) : intsOf (ns.map D.int) = some ns := by
  have := intsOf_map (fun i : Int => i) ns
  simpa using this
theorem x_any {α : Type} (f : α → Bool) {as : List α} : px .any [.tl (as.map fun a => D.bl (f a))] h Q = Q (.bl (as.any f)) h := by
  have e : blsAt h (.tl (as.map fun a => D.bl (f a))) = some (as.map f) := blsOf_map f as
  simp only [px_eq, wpP, anyW, e]
  rw [List.any_map]; rfl
theorem x_all {α : Type} (f : α → Bool) {as : List α} : px .all [.tl (as.map fun a => D.bl (f a))] h Q = Q (.bl (as.all f)) h := by
  have e : blsAt h (.tl (as.map fun a => D.bl (f a))) = some (as.map f) := blsOf_map f as
  simp only [px_eq, wpP, allW, e]
  rw [List.all_map]; rfl
theorem ints_at_of {x : D} {ns : List Int} (e : lstOf h x = some (ns.map D.int)) : intsAt h x = some ns := by
  unfold intsAt
  rw [e]
  exact intsOf_ints ns
theorem x_sum {x : D} {ns : List Int} (e : lstOf h x = some (ns.map D.int)) : px .sum [x] h Q = Q (.int ns.sum) h := by
  simp only [px_eq, wpP, sumW, ints_at_of e]
theorem x_sorted {x : D} {ns : List Int} (e : seqOf h x = some (ns.map D.int)) : px .sorted [x] h Q = Q (.tl ((sortI ns).map D.int)) h := by
  have e2 : intsSq h x = some ns := by
    unfold intsSq
    rw [e]
    exact intsOf_ints ns
  simp only [px_eq, wpP, sortedW, e2]
theorem seq_of_lst {x : D} {xs : List D} (e : lstOf h x = some xs) : seqOf h x = some xs := by
  cases x <;> first | exact e | cases e
theorem ints_sq_of {x : D} {ns : List Int} (e : seqOf h x = some (ns.map D.int)) : intsSq h x = some ns := by
  unfold intsSq
  rw [e]
  exact intsOf_ints ns
theorem x_sortedSetQ {x : D} {ns : List Int} (e : seqOf h x = some (ns.map D.int)) : px .sortedSet [x] h Q = (ns.length < 64 ∧ ∀ us : List Int, us.Pairwise (· < ·) → (∀ k, k ∈ us ↔ k ∈ ns) → Q (.tl (us.map D.int)) h) := by
  simp only [px_eq, wpP, sortedSetW, ints_sq_of e]
theorem x_lenSetQ {x : D} {ns : List Int} (e : seqOf h x = some (ns.map D.int)) : px .lenSet [x] h Q = (ns.length < 4000 ∧ ∀ us : List Int, us.Nodup → (∀ k, k ∈ us ↔ k ∈ ns) → Q (.int us.length) h) := by
  simp only [px_eq, wpP, lenSetW, ints_sq_of e]
theorem x_sortedSet {x : D} {ns : List Int} (e : lstOf h x = some (ns.map D.int)) : px .sortedSet [x] h Q = (ns.length < 64 ∧ ∀ us : List Int, us.Pairwise (· < ·) → (∀ k, k ∈ us ↔ k ∈ ns) → Q (.tl (us.map D.int)) h) := x_sortedSetQ (seq_of_lst e)
theorem x_lenSet {x : D} {ns : List Int} (e : lstOf h x = some (ns.map D.int)) : px .lenSet [x] h Q = (ns.length < 4000 ∧ ∀ us : List Int, us.Nodup → (∀ k, k ∈ us ↔ k ∈ ns) → Q (.int us.length) h) := x_lenSetQ (seq_of_lst e)
theorem x_lenSetT {ns : List Int} : px .lenSet [.tup (ns.map D.int)] h Q = (ns.length < 4000 ∧ ∀ us : List Int, us.Nodup → (∀ k, k ∈ us ↔ k ∈ ns) → Q (.int us.length) h) := x_lenSetQ rfl
theorem x_maxL {x : D} {ns : List Int} {m : Int} (e : lstOf h x = some (ns.map D.int)) (em : ns.max? = some m) : px .maxL [x] h Q = Q (.int m) h := by
  simp only [px_eq, wpP, maxLW, ints_at_of e, em]
theorem x_minL {x : D} {ns : List Int} {m : Int} (e : lstOf h x = some (ns.map D.int)) (em : ns.min? = some m) : px .minL [x] h Q = Q (.int m) h := by
  simp only [px_eq, wpP, minLW, ints_at_of e, em]
@[simp ↓] theorem x_max2 {i j : Int} : px .max2 [.int i, .int j] h Q = Q (.int (if j > i then j else i)) h := by (try simp only [px_eq]) <;> rfl
@[simp ↓] theorem x_min2 {i j : Int} : px .min2 [.int i, .int j] h Q = Q (.int (if j < i then j else i)) h := by (try simp only [px_eq]) <;> rfl
@[simp ↓] theorem x_mulTp {a : List D} {k : Int} : px .mul [.tup a, .int k] h Q = ((-(2 ^ 63) ≤ k ∧ k ≤ 1000 ∧ a.length ≤ 1000) ∧ Q (.tup (List.replicate k.toNat a).flatten) h) := by (try simp only [px_eq]) <;> rfl
@[simp ↓] theorem x_tupleTl {xs : List D} : px .tuple [.tl xs] h Q = Q (.tup xs) h := by (try simp only [px_eq]) <;> rfl
@[simp ↓] theorem x_tupleTp {xs : List D} : px .tuple [.tup xs] h Q = Q (.tup xs) h := by (try simp only [px_eq]) <;> rfl
@[simp ↓] theorem x_tupleRl {xs : List D} : px .tuple [.rl xs] h Q = Q (.tup xs) h := by (try simp only [px_eq]) <;> rfl
/-! parts of tuples -/
@[simp ↓] theorem x_revT {xs : List D} : px .rev [.tup xs] h Q = Q (.tup xs.reverse) h := by (try simp only [px_eq]) <;> rfl
@[simp ↓] theorem x_slHiT {xs : List D} {i : Int} : px .slHi [.tup xs, .int i] h Q = Q (.tup (cutD xs none (some i))) h := by (try simp only [px_eq]) <;> rfl
@[simp ↓] theorem x_slLoT {xs : List D} {i : Int} : px .slLo [.tup xs, .int i] h Q = Q (.tup (cutD xs (some i) none)) h := by (try simp only [px_eq]) <;> rfl
@[simp ↓] theorem x_slHiTl {xs : List D} {i : Int} : px .slHi [.tl xs, .int i] h Q = Q (.tl (cutD xs none (some i))) h := by (try simp only [px_eq]) <;> rfl
@[simp ↓] theorem x_slLoTl {xs : List D} {i : Int} : px .slLo [.tl xs, .int i] h Q = Q (.tl (cutD xs (some i) none)) h := by (try simp only [px_eq]) <;> rfl
theorem cut_take {xs : List D} {n : Nat} : cutD xs none (some (n : Int)) = xs.take n := by
  unfold cutD
  rw [HT.sIx_none, HT.sIx_nat, List.drop_zero, Nat.sub_zero]
  by_cases hn : n ≤ xs.length
  · rw [Nat.min_eq_left hn]
  · rw [Nat.min_eq_right (by omega), List.take_length, List.take_of_length_le (by omega)]
theorem cut_drop {xs : List D} {n : Nat} : cutD xs (some (n : Int)) none = xs.drop n := by
  unfold cutD
  rw [HT.sIx_none, HT.sIx_nat]
  by_cases hn : n ≤ xs.length
  · rw [Nat.min_eq_left hn, List.take_of_length_le (by rw [List.length_drop]; omega)]
  · rw [Nat.min_eq_right (by omega), Nat.sub_self, List.take_zero, List.drop_of_length_le (by omega)]
/-! membership -/
theorem x_in {x y : D} {xs : List D} (e : seqOf h y = some xs) (c : flatD x = true ∧ xs.all flatD = true ∧ ¬ (flatB x = true ∧ xs.any flatI = true) ∧ ¬ (flatI x = true ∧ xs.any flatB = true)) : px .in_ [x, y] h Q = Q (.bl (xs.any fun z => feq z x)) h := by
  have e2 : inW x y h (bo Q) = ((flatD x = true ∧ xs.all flatD = true ∧ ¬ (flatB x = true ∧ xs.any flatI = true) ∧ ¬ (flatI x = true ∧ xs.any flatB = true)) ∧ bo Q (xs.any fun z => feq z x) h) := by
    unfold inW; rw [e]
  simp only [px_eq, wpP, e2, bo]
  exact propext ⟨fun z => z.2, fun z => ⟨c, z⟩⟩
theorem x_notin {x y : D} {xs : List D} (e : seqOf h y = some xs) (c : flatD x = true ∧ xs.all flatD = true ∧ ¬ (flatB x = true ∧ xs.any flatI = true) ∧ ¬ (flatI x = true ∧ xs.any flatB = true)) : px .notin [x, y] h Q = Q (.bl (!xs.any fun z => feq z x)) h := by
  have e2 : inW x y h (bon Q) = ((flatD x = true ∧ xs.all flatD = true ∧ ¬ (flatB x = true ∧ xs.any flatI = true) ∧ ¬ (flatI x = true ∧ xs.any flatB = true)) ∧ bon Q (xs.any fun z => feq z x) h) := by
    unfold inW; rw [e]
  simp only [px_eq, wpP, e2, bon]
  exact propext ⟨fun z => z.2, fun z => ⟨c, z⟩⟩
/-- numbers among numbers -/
theorem in_ints {i : Int} {ns : List Int} : ((ns.map D.int).any fun z => feq z (.int i)) = decide (i ∈ ns) := by
  induction ns with
  | nil => rfl
  | cons n ns ih =>
    rw [List.map_cons, List.any_cons, ih]
    show (n == i || decide (i ∈ ns)) = _
    by_cases hn : n = i
    · subst hn; simp
    · have : (n == i) = false := by simpa using hn
      rw [this]
      simp [Ne.symm hn]
theorem flat_ints {i : Int} {ns : List Int} : flatD (.int i) = true ∧ (ns.map D.int).all flatD = true ∧ ¬ (flatB (.int i) = true ∧ (ns.map D.int).any flatI = true) ∧ ¬ (flatI (.int i) = true ∧ (ns.map D.int).any flatB = true) := by
  refine ⟨rfl, ?_, (fun z => by cases z.1), fun z => ?_⟩
  · rw [List.all_map]; exact List.all_eq_true.mpr fun _ _ => rfl
  · have := z.2
    rw [List.any_map] at this
    obtain ⟨_, _, w⟩ := List.any_eq_true.mp this
    cases w
theorem x_inI {i : Int} {y : D} {ns : List Int} (e : seqOf h y = some (ns.map D.int)) : px .in_ [.int i, y] h Q = Q (.bl (decide (i ∈ ns))) h := by
  rw [x_in e flat_ints, in_ints]
theorem x_notinI {i : Int} {y : D} {ns : List Int} (e : seqOf h y = some (ns.map D.int)) : px .notin [.int i, y] h Q = Q (.bl (!decide (i ∈ ns))) h := by
  rw [x_notin e flat_ints, in_ints]
/-! truths told or not -/
def tv : Option Bool → D
  | none => .non
  | some b => .bl b
theorem feq_tv (a b : Option Bool) : feq (tv a) (tv b) = decide (b = a) := by
  cases a with
  | none => cases b <;> rfl
  | some x => cases b with
    | none => rfl
    | some y => cases x <;> cases y <;> rfl
theorem x_inTv {o : Option Bool} {y : D} {os : List (Option Bool)} (e : seqOf h y = some (os.map tv)) : px .in_ [tv o, y] h Q = Q (.bl (decide (o ∈ os))) h := by
  rw [x_in e]
  · congr 2
    rw [List.any_map]
    induction os with
    | nil => rfl
    | cons p os ih =>
      rw [List.any_cons]
      have ih' : (os.any ((fun z => feq z (tv o)) ∘ tv)) = decide (o ∈ os) := by
        clear ih e
        induction os with
        | nil => rfl
        | cons p os ih => rw [List.any_cons, ih, Function.comp, feq_tv]; simp
      rw [ih', Function.comp, feq_tv]; simp
  · refine ⟨by cases o <;> rfl, ?_, fun z => ?_, fun z => ?_⟩
    · rw [List.all_map]; exact List.all_eq_true.mpr fun o _ => by cases o <;> rfl
    · have := z.2
      rw [List.any_map] at this
      obtain ⟨o, _, w⟩ := List.any_eq_true.mp this
      cases o <;> cases w
    · have := z.1
      cases o <;> cases this
theorem cleans_tv {n : Nat} : ∀ os : List (Option Bool), D.cleans n (os.map tv)
  | [] => trivial
  | o :: os => by simp only [List.map_cons, D.cleans]; exact ⟨by cases o <;> trivial, cleans_tv os⟩
@[simp] theorem isNon_tv {o : Option Bool} : isNonD (tv o) = decide (o = none) := by cases o <;> rfl
@[simp] theorem isBl_tv {o : Option Bool} {b : Bool} : isBlD b (tv o) = decide (o = some b) := by
  cases o with
  | none => rfl
  | some c => cases b <;> cases c <;> rfl
@[simp ↓] theorem m_tv {o : Option Bool} : mat (tv o) h Q = Q (tv o) h := by cases o <;> rfl
/-! equality of lists of numbers, of a tuple with the empty one -/
theorem pds_ints : ∀ ns : List Int, D.pds (ns.map D.int) = ns.map PyData.int
  | [] => rfl
  | n :: ns => by simp only [List.map_cons, D.pds, D.pd, pds_ints ns]
theorem pures_ints : ∀ ns : List Int, D.pures (ns.map D.int) = true
  | [] => rfl
  | n :: ns => by simp only [List.map_cons, D.pures, D.pure, pures_ints ns, Bool.and_self]
theorem can_ints : ∀ ns : List Int, PyData.canLayAll0 (ns.map PyData.int) = true
  | [] => rfl
  | n :: ns => by simp only [List.map_cons, PyData.canLayAll0, PyData.canLay0, can_ints ns, Bool.and_self]
theorem depth_ints : ∀ ns : List Int, PyData.depthAll (ns.map PyData.int) = 0
  | [] => rfl
  | n :: ns => by simp only [List.map_cons, PyData.depthAll, PyData.depth, depth_ints ns]; rfl
theorem eqv_ints : ∀ ns ms : List Int, PyData.eqvAll (ns.map PyData.int) (ms.map PyData.int) = decide (ns = ms)
  | [], [] => rfl
  | [], _ :: _ => by simp [PyData.eqvAll]
  | _ :: _, [] => by simp [PyData.eqvAll]
  | n :: ns, m :: ms => by
    simp only [List.map_cons, PyData.eqvAll, PyData.eqv, eqv_ints ns ms]
    by_cases h1 : n = m
    · subst h1; simp
    · simp [h1]
theorem shaped_list {ns : List Int} : SeqAt.shaped (.list (ns.map PyData.int)) = true := by
  simp [SeqAt.shaped, PyData.canLay0, can_ints, PyData.depth, depth_ints]
theorem shaped_tuple {ns : List Int} : SeqAt.shaped (.tuple (ns.map PyData.int)) = true := by
  simp [SeqAt.shaped, PyData.canLay0, can_ints, PyData.depth, depth_ints]
theorem snap_intsL {x : D} {ns : List Int} (e : lstOf h x = some (ns.map D.int)) : snap h x = some (.list (ns.map PyData.int)) := by
  have hp : x.pure = false := by cases x <;> first | (cases e; done) | rfl | skip
                                 all_goals (simp [lstOf] at e)
  unfold snap
  rw [hp, e]
  simp only [pures_ints, pds_ints]; rfl
theorem snap_intsT {ns : List Int} : snap h (.tup (ns.map D.int)) = some (.tuple (ns.map PyData.int)) := by
  unfold snap
  have hp : D.pure (.tup (ns.map D.int)) = true := by simp only [D.pure, pures_ints]
  rw [hp]
  simp only [D.pd, pds_ints]; rfl
theorem x_eqIL {x y : D} {ns ms : List Int} (e1 : lstOf h x = some (ns.map D.int)) (e2 : lstOf h y = some (ms.map D.int)) : px .eq [x, y] h Q = Q (.bl (decide (ns = ms))) h := by
  have e3 : ∀ R : Bool → Hd → Prop, eqW x y h R = R (decide (ns = ms)) h := by
    intro R
    have s1 := snap_intsL e1
    have s2 := snap_intsL e2
    cases x <;> first | (cases e1; done) | skip
    all_goals (simp only [eqW, s1, s2, shaped_list, PyData.eqv, eqv_ints, true_and])
  simp only [px_eq, wpP, e3, bo]
theorem eqW_IT {ns ms : List Int} (R : Bool → Hd → Prop) : eqW (.tup (ns.map D.int)) (.tup (ms.map D.int)) h R = R (decide (ns = ms)) h := by
  simp only [eqW, snap_intsT, shaped_tuple, PyData.eqv, eqv_ints, true_and]
theorem x_eqIT {ns ms : List Int} : px .eq [.tup (ns.map D.int), .tup (ms.map D.int)] h Q = Q (.bl (decide (ns = ms))) h := by simp only [px_eq, wpP, eqW_IT, bo]
theorem x_neIT {ns ms : List Int} : px .ne [.tup (ns.map D.int), .tup (ms.map D.int)] h Q = Q (.bl (!decide (ns = ms))) h := by simp only [px_eq, wpP, eqW_IT, bon]
theorem x_neIT0 {ns : List Int} : px .ne [.tup (ns.map D.int), .tup []] h Q = Q (.bl (!decide (ns = []))) h := x_neIT (ms := [])
end
/-! comprehensions -/
theorem comp_on {α : Type} {ok : Hd → Prop} {p : Pat} {elt : TEd} {τ : Sd} {Q : List D → Hd → Prop} {h : Hd} (f g : α → D) {as : List α} (hl : as.length ≤ sizeLine) (hok : ok h)
    (step : ∀ a ∈ as, ∀ (k : D → Hd → Prop), k (g a) h → bindW p (f a) τ fun τ' => elt τ' h fun y h2 => mat y h2 k)
    (q : Q (as.map g) h) : compW ok p yesT elt τ Q (as.map f) [] h := by
  have key : ∀ (as : List α) (acc : List D), as.length + acc.length ≤ sizeLine → (∀ a ∈ as, ∀ (k : D → Hd → Prop), k (g a) h → bindW p (f a) τ fun τ' => elt τ' h fun y h2 => mat y h2 k) → Q (acc ++ as.map g) h →
      compW ok p yesT elt τ Q (as.map f) acc h := by
    intro as
    induction as with
    | nil => intro acc _ _ q; simp only [List.map_nil, compW]; exact ⟨hok, by simpa using q⟩
    | cons a as ih =>
      intro acc hl step q
      rw [List.length_cons] at hl
      simp only [List.map_cons, compW, yesT, if_true]
      refine ⟨hok, step a List.mem_cons_self _ ⟨by omega, ih _ (by rw [List.length_append]; simp; omega) (fun b hb => step b (List.mem_cons_of_mem _ hb)) (by simpa using q)⟩⟩
  exact key as [] (by simpa using hl) step q
theorem comp_onf {α : Type} {ok : Hd → Prop} {p : Pat} {cond : TTd} {elt : TEd} {τ : Sd} {Q : List D → Hd → Prop} {h : Hd} (f g : α → D) (c : α → Bool) {as : List α} (hl : as.length ≤ sizeLine) (hok : ok h)
    (step : ∀ a ∈ as, ∀ (k : D → Hd → Prop) (s : Hd → Prop), (if c a = true then k (g a) h else s h) → bindW p (f a) τ fun τ' => cond τ' h fun b h1 => if b = true then elt τ' h1 fun y h2 => mat y h2 k else s h1)
    (q : Q ((as.filter c).map g) h) : compW ok p cond elt τ Q (as.map f) [] h := by
  have key : ∀ (as : List α) (acc : List D), as.length + acc.length ≤ sizeLine → (∀ a ∈ as, ∀ (k : D → Hd → Prop) (s : Hd → Prop), (if c a = true then k (g a) h else s h) → bindW p (f a) τ fun τ' => cond τ' h fun b h1 => if b = true then elt τ' h1 fun y h2 => mat y h2 k else s h1) →
      Q (acc ++ (as.filter c).map g) h → compW ok p cond elt τ Q (as.map f) acc h := by
    intro as
    induction as with
    | nil => intro acc _ _ q; simp only [List.map_nil, compW]; exact ⟨hok, by simpa using q⟩
    | cons a as ih =>
      intro acc hl step q
      rw [List.length_cons] at hl
      simp only [List.map_cons, compW]
      refine ⟨hok, step a List.mem_cons_self _ _ ?_⟩
      have st := fun b (hb : b ∈ as) => step b (List.mem_cons_of_mem _ hb)
      split
      · rename_i hc
        exact ⟨by omega, ih _ (by rw [List.length_append]; simp; omega) st (by simpa [hc] using q)⟩
      · rename_i hc
        exact ih _ (by omega) st (by simpa [hc] using q)
  exact key as [] (by simpa using hl) step q
/-- a comprehension that changes the heap -/
theorem comp_inv {ok : Hd → Prop} {p : Pat} {cond : TTd} {elt : TEd} {τ : Sd} {Q : List D → Hd → Prop} {h : Hd} (I : Nat → List D → Hd → Prop) {xs : List D} (hl : xs.length ≤ sizeLine) (h0 : I 0 [] h)
    (step : ∀ (i : Nat) (x : D) (acc : List D) (h : Hd) (k : D → Hd → Prop) (s : Hd → Prop), xs[i]? = some x → I i acc h → (∀ y h', I (i + 1) (acc ++ [y]) h' → k y h') → (∀ h', I (i + 1) acc h' → s h') →
      ok h ∧ bindW p x τ fun τ' => cond τ' h fun b h1 => if b = true then elt τ' h1 fun y h2 => mat y h2 k else s h1)
    (done : ∀ acc h, I xs.length acc h → ok h ∧ Q acc h) : compW ok p cond elt τ Q xs [] h := by
  have key : ∀ (m i : Nat) (acc : List D) (h : Hd), i + m = xs.length → acc.length ≤ i → I i acc h → compW ok p cond elt τ Q (xs.drop i) acc h := by
    intro m
    induction m with
    | zero =>
      intro i acc h e _ q
      have e : i = xs.length := by omega
      subst e
      rw [List.drop_length]
      simp only [compW]
      exact done acc h q
    | succ m ih =>
      intro i acc h e ha q
      have hi : i < xs.length := by omega
      rw [List.drop_eq_getElem_cons hi]
      simp only [compW]
      exact step i _ acc h _ _ (List.getElem?_eq_getElem hi) q (fun y h' z => ⟨by omega, ih (i + 1) _ h' (by omega) (by simpa using ha) z⟩) (fun h' z => ih (i + 1) _ h' (by omega) (by omega) z)
  exact key xs.length 0 [] h (by omega) (Nat.le_refl _) h0
theorem rangeD_map (lo : Int) (n : Nat) : rangeD lo n = (List.range n).map fun (i : Nat) => D.int (lo + (i : Int)) := rfl
/-! places -/
@[simp] theorem atI_zero {x : D} {xs : List D} : atI (x :: xs) 0 = some x := by simp [atI, ixN]
@[simp] theorem atI_one {x y : D} {xs : List D} : atI (x :: y :: xs) 1 = some y := by
  unfold atI ixN
  rw [if_pos (by omega), if_pos (by simp; omega)]; rfl
@[simp] theorem atI_two {x y z : D} {xs : List D} : atI (x :: y :: z :: xs) 2 = some z := by
  unfold atI ixN
  rw [if_pos (by omega), if_pos (by simp; omega)]; rfl
@[simp] theorem atI_three {x y z u : D} {xs : List D} : atI (x :: y :: z :: u :: xs) 3 = some u := by
  unfold atI ixN
  rw [if_pos (by omega), if_pos (by simp; omega)]; rfl
theorem atI_map {α : Type} {f : α → D} {as : List α} {i : Int} {a : α} (h0 : 0 ≤ i) (e : as[i.toNat]? = some a) : atI (as.map f) i = some (f a) := by
  have hi := (List.getElem?_eq_some_iff.mp e).1
  unfold atI ixN
  rw [if_pos h0, if_pos (by rw [List.length_map]; omega)]
  simp [e]
theorem atI_map_nat {α : Type} {f : α → D} {as : List α} {i : Nat} {a : α} (e : as[i]? = some a) : atI (as.map f) (i : Int) = some (f a) := atI_map (by omega) (by simpa using e)
end Py

namespace Py
open PySem PySem.Spec PyProof.Rows L2

/-! ### facts of the top -/
section
variable {K : PySem.W.Frag} {mg : Str → Option Value}
theorem exc_mk {x : Str} {C : Addr} (hm : mg x = some (.ref C)) (h1 : PySem.W.excIn K C [.type "ValueError", .type "Exception", .type "BaseException", .type "object"] "ValueError.__new__" = true) (h2 : PySem.W.keepIn K (.ref C) = true)
    (h3 : PySem.W.subIn K (.ref C) (.type "BaseException") = some true) (h4 : PySem.W.typeIn K (.ref C) = some (.type "type")) : ExC K mg x (.ref C) := ⟨⟨C, rfl, hm, h1, h2, h3, h4⟩⟩
theorem xs_mk {C D : Addr} {b : Bool} (h1 : PySem.W.subIn K (.ref D) (.type "BaseException") = some true) (h2 : PySem.W.hasDictIn K D = true) (h3 : PySem.W.typeIn K (.ref D) = some (.type "type")) (h4 : PySem.W.subIn K (.ref C) (.ref D) = some b) :
    PySem.W.exmOne K (.ref C) (.ref D) = some b := PySem.W.exm_ref h1 h2 h3 h4
theorem xi_ref {C D : Addr} {x : Str} (hc : ExcC K C) (hm : mg x = some (.ref D)) (h2 : PySem.W.hasDictIn K D = true) (h3 : PySem.W.typeIn K (.ref D) = some (.type "type")) (h4 : PySem.W.subIn K (.ref C) (.ref D) = some true) : XIs K mg (.ref C) x true := by
  refine ⟨C, .ref D, rfl, hc, .inl ⟨D, rfl, hm⟩, ?_⟩
  unfold PySem.W.kitOne
  split
  · rfl
  · obtain ⟨cd, hcd, _⟩ := PySem.W.any_some h2
    unfold PySem.W.kitCls
    simp only
    rw [if_pos (by rw [hcd, h3]; rfl)]
    exact h4
theorem xi_ty {C : Addr} {T : String} {x : Str} {b : Bool} (hc : ExcC K C) (hm : mg x = none) (hb : bootBuiltins x = some (.type T)) (hk : PySem.W.kitMeta T = true) (h4 : PySem.W.subIn K (.ref C) (.type T) = some b) : XIs K mg (.ref C) x b := by
  refine ⟨C, .type T, rfl, hc, .inr ⟨T, rfl, hm, hb⟩, ?_⟩
  unfold PySem.W.kitOne
  split
  · rename_i hq
    exact Value.noConfusion (eq_of_beq hq)
  · unfold PySem.W.kitCls
    simp only
    rw [if_pos hk]
    exact h4
def strsOf : List Value → Option (List Str)
  | [] => some []
  | .str x _ :: r => (strsOf r).map (x :: ·)
  | _ :: _ => none
theorem strs_vals : ∀ {us : List Value} {xs : List Str}, strsOf us = some xs → Vals (xs.map V.str) us
  | [], xs, h => by cases h; exact .nil
  | u :: us, xs, h => by
    cases u <;> first | (cases h; done) | skip
    rename_i x t
    simp only [strsOf, Option.map_eq_some_iff] at h
    obtain ⟨ys, e, rfl⟩ := h
    exact .cons ⟨t, rfl⟩ (strs_vals e)
theorem strs_r0 {H : Hp} {R : Nat → Addr} {n : Nat} : ∀ xs : List Str, R0s K H R n (xs.map D.str) (xs.map V.str)
  | [] => by simp [R0s]
  | x :: xs => by simp only [List.map_cons, R0s, R0]; exact ⟨_, _, rfl, rfl, strs_r0 xs⟩
abbrev GlOk (K : PySem.W.Frag) (mg : Str → Option Value) (x : Str) (d : D) : Prop := ∃ u v, mg x = some u ∧ RelV v u ∧ ∀ H R n, R0 K H R n d v
theorem gl_str {x z : Str} {t : Tok} (hm : mg x = some (.str z t)) : GlOk K mg x (.str z) := ⟨_, .str z, hm, ⟨t, rfl⟩, fun H R n => by simp only [R0]⟩
theorem gl_int {x : Str} {z : Int} {t : Tok} (hm : mg x = some (.int z t)) : GlOk K mg x (.int z) := ⟨_, .int z, hm, ⟨t, rfl⟩, fun H R n => by simp only [R0]⟩
theorem gl_tupS {x : Str} {a : Addr} {dd : Option Addr} {its : Array Value} {n : Nat} {sl : Array (Option Value)} {zs : List Str} (hm : mg x = some (.ref a)) (hl : K.lookup a = some ⟨.type "tuple", dd, .seq its n, sl⟩) (hv : strsOf its.toList = some zs) (hz : zs.length ≤ 1000) :
    GlOk K mg x (.tup (zs.map D.str)) := by
  refine ⟨_, .ref a, hm, rfl, fun H R m => ?_⟩
  simp only [R0]
  have pv := strs_vals hv
  have e : its.size = zs.length := by
    have := pv.length
    simpa using this.symm
  have hsz : sizeLine > 2000 := by decide
  exact ⟨a, zs.map V.str, rfl, .inr ⟨_, its, n, hl, rfl, rfl, by omega, pv⟩, strs_r0 zs⟩
end
end Py

namespace Py
open PySem PySem.Spec PyProof.Rows L2

/-! ### the heap grown -/
def Ex (h h' : Hd) : Prop := h.length ≤ h'.length ∧ ∀ i, i < h.length → h'[i]? = h[i]?
theorem Ex.refl {h : Hd} : Ex h h := ⟨Nat.le_refl _, fun _ _ => rfl⟩
theorem Ex.app {h h' l : Hd} (e : Ex h h') : Ex h (h' ++ l) := ⟨by have := e.1; simp; omega, fun i hi => by rw [List.getElem?_append_left (by have := e.1; omega)]; exact e.2 i hi⟩
theorem Ex.set {h h' : Hd} {a : Nat} {o : DO} (e : Ex h h') (ha : h.length ≤ a) : Ex h (h'.set a o) := ⟨by simpa using e.1, fun i hi => by rw [List.getElem?_set_ne (by omega)]; exact e.2 i hi⟩
theorem Ex.trans {h h' h2 : Hd} (e : Ex h h') (f : Ex h' h2) : Ex h h2 := ⟨Nat.le_trans e.1 f.1, fun i hi => by rw [f.2 i (by have := e.1; omega)]; exact e.2 i hi⟩
theorem Ex.look {h h' : Hd} {a : Nat} {o : DO} (e : Ex h h') (ha : h[a]? = some o) : h'[a]? = some o := by
  rw [e.2 a (List.getElem?_eq_some_iff.mp ha).1]; exact ha
theorem Ex.take {h h' : Hd} (e : Ex h h') : h'.take h.length = h := by
  apply List.ext_getElem?
  intro i
  by_cases hi : i < h.length
  · rw [List.getElem?_take_of_lt hi]; exact e.2 i hi
  · rw [List.getElem?_eq_none (by simp; omega), List.getElem?_eq_none (by omega)]
theorem Ex.gc {h h' : Hd} (e : Ex h h') : gcOK h h' := ⟨e.1, fun i o hi q => .inl (by rw [← e.2 i hi]; exact q)⟩
theorem gc_ex {h h' : Hd} {v : D} {Q : PD} (e : Ex h h') (c : v.clean h.length) (q : Q v h) : Gc h v h' Q := .inr (.inl ⟨c, e.gc, by rw [e.take]; exact q⟩)
theorem gx_ex {h h' : Hd} {c : Nat} {x : XD} (e : Ex h h') (q : x c h) : gcX h x c h' := .inr ⟨e.gc, by rw [e.take]; exact q⟩
theorem Ex.tail {a : DO} {r h : Hd} (e : Ex (a :: r) h) : ∃ r2, h = a :: r2 ∧ Ex r r2 := by
  obtain ⟨h1, h2⟩ := e
  cases h with
  | nil => simp at h1
  | cons b r2 =>
    have := h2 0 (by simp)
    simp at this
    subst this
    exact ⟨r2, rfl, by simpa using h1, fun i hi => by simpa using h2 (i + 1) (by simpa using hi)⟩
/-- only the draws were changed, places are new -/
theorem gc_dr {xs ys : List Int} {r r2 : Hd} {v : D} {Q : PD} (e : Ex r r2) (c : v.clean (r.length + 1)) (q : Q v (.lst (ys.map D.int) :: r)) : Gc (.lst (xs.map D.int) :: r) v (.lst (ys.map D.int) :: r2) Q := by
  refine .inr (.inl ⟨c, ⟨by have := e.1; simp; omega, fun i o hi eo => ?_⟩, ?_⟩)
  · cases i with
    | zero => simp at eo; subst eo; exact .inr (cleans_ints _)
    | succ i =>
      simp at eo hi
      rw [e.2 i hi] at eo
      exact .inl (by simpa using eo)
  · show Q v ((DO.lst (ys.map D.int) :: r2).take (r.length + 1))
    rw [List.take_succ_cons, e.take]
    exact q
theorem cleans_strs {n : Nat} : ∀ xs : List Str, D.cleans n (xs.map D.str)
  | [] => trivial
  | _ :: xs => by simp only [List.map_cons, D.cleans, D.clean, true_and]; exact cleans_strs xs
theorem data_clean {n : Nat} : ∀ (m : Nat) (x : D), data m x → x.clean n
  | 0, _, z => z.elim
  | _ + 1, .non, _ => trivial
  | _ + 1, .bl _, _ => trivial
  | _ + 1, .int _, _ => trivial
  | _ + 1, .str _, _ => trivial
  | m + 1, .tup xs, z => by
    simp only [D.clean]
    have key : ∀ ys : List D, (∀ y ∈ ys, data m y) → D.cleans n ys := fun ys => by
      induction ys with
      | nil => intro _; trivial
      | cons y ys ih => intro q; simp only [D.cleans]; exact ⟨data_clean m y (q y List.mem_cons_self), ih fun u hu => q u (List.mem_cons_of_mem _ hu)⟩
    exact key xs z.2
  | _ + 1, .loc _, z => z.elim
  | _ + 1, .tl _, z => z.elim
  | _ + 1, .td _ _ _, z => z.elim
  | _ + 1, .rl _, z => z.elim
theorem data_pure : ∀ (m : Nat) (x : D), data m x → x.pure = true
  | 0, _, z => z.elim
  | _ + 1, .non, _ => rfl
  | _ + 1, .bl _, _ => rfl
  | _ + 1, .int _, _ => rfl
  | _ + 1, .str _, _ => rfl
  | m + 1, .tup xs, z => by
    simp only [D.pure]
    have key : ∀ ys : List D, (∀ y ∈ ys, data m y) → D.pures ys = true := fun ys => by
      induction ys with
      | nil => intro _; rfl
      | cons y ys ih => intro q; simp only [D.pures, Bool.and_eq_true]; exact ⟨data_pure m y (q y List.mem_cons_self), ih fun u hu => q u (List.mem_cons_of_mem _ hu)⟩
    exact key xs z.2
  | _ + 1, .loc _, z => z.elim
  | _ + 1, .tl _, z => z.elim
  | _ + 1, .td _ _ _, z => z.elim
  | _ + 1, .rl _, z => z.elim
theorem data_depth : ∀ (m : Nat) (x : D), data m x → x.pd.depth ≤ m
  | 0, _, z => z.elim
  | _ + 1, .non, _ => Nat.zero_le _
  | _ + 1, .bl _, _ => Nat.zero_le _
  | _ + 1, .int _, _ => Nat.zero_le _
  | _ + 1, .str _, _ => Nat.zero_le _
  | m + 1, .tup xs, z => by
    simp only [D.pd, PyData.depth]
    have key : ∀ ys : List D, (∀ y ∈ ys, data m y) → PyData.depthAll (D.pds ys) ≤ m := fun ys => by
      induction ys with
      | nil => intro _; exact Nat.zero_le _
      | cons y ys ih => intro q; simp only [D.pds, PyData.depthAll]; exact Nat.max_le.mpr ⟨data_depth m y (q y List.mem_cons_self), ih fun u hu => q u (List.mem_cons_of_mem _ hu)⟩
    have := key xs z.2
    omega
  | _ + 1, .loc _, z => z.elim
  | _ + 1, .tl _, z => z.elim
  | _ + 1, .td _ _ _, z => z.elim
  | _ + 1, .rl _, z => z.elim
section
variable {h : Hd} {Q : PD}
theorem snap_data {m : Nat} {x : D} (dx : data m x) : snap h x = some x.pd := by
  unfold snap
  rw [if_pos (data_pure m x dx)]
theorem eqW_data {m k : Nat} {x y : D} (dx : data m x) (dy : data k y) (cx : x.pd.canLay0 = true) (cy : y.pd.canLay0 = true) (hm : m ≤ 60) (hk : k ≤ 60) (R : Bool → Hd → Prop) : eqW x y h R = R (PyData.eqv x.pd y.pd) h := by
  have sh : ∀ {m : Nat} {x : D}, data m x → x.pd.canLay0 = true → m ≤ 60 → SeqAt.shaped x.pd = true := fun {m x} dx cx hm => by
    unfold SeqAt.shaped
    rw [cx, Bool.true_and, decide_eq_true_eq]
    have := data_depth m x dx
    omega
  have g : ∀ a b : PyData, snap h x = some a → snap h y = some b → (match snap h x, snap h y with
    | some a, some b => SeqAt.shaped a = true ∧ SeqAt.shaped b = true ∧ R (PyData.eqv a b) h
    | _, _ => False) = (SeqAt.shaped a = true ∧ SeqAt.shaped b = true ∧ R (PyData.eqv a b) h) := fun a b e1 e2 => by rw [e1, e2]
  have G := g _ _ (snap_data dx) (snap_data dy)
  rw [sh dx cx hm, sh dy cy hk] at G
  simp only [true_and] at G
  cases x <;> cases y <;> first | exact G | rfl
theorem x_eqD {m k : Nat} {x y : D} (dx : data m x) (dy : data k y) (cx : x.pd.canLay0 = true) (cy : y.pd.canLay0 = true) (hm : m ≤ 60) (hk : k ≤ 60) : px .eq [x, y] h Q = Q (.bl (PyData.eqv x.pd y.pd)) h := by
  simp only [px_eq, wpP, eqW_data dx dy cx cy hm hk, bo]
theorem x_neD {m k : Nat} {x y : D} (dx : data m x) (dy : data k y) (cx : x.pd.canLay0 = true) (cy : y.pd.canLay0 = true) (hm : m ≤ 60) (hk : k ≤ 60) : px .ne [x, y] h Q = Q (.bl (!PyData.eqv x.pd y.pd)) h := by
  simp only [px_eq, wpP, eqW_data dx dy cx cy hm hk, bon]
theorem x_neSelf {m : Nat} {x : D} (dx : data m x) (cx : x.pd.canLay0 = true) (hm : m ≤ 60) : px .ne [x, x] h Q = Q (.bl false) h := by
  rw [x_neD dx dx cx cx hm hm, SeqAt.eqv_refl _ cx]
  rfl
end
end Py

namespace Py
open PySem PySem.Spec PyProof.Rows L2

/-! ### defs that laws share: orders, shuffled rows -/
def cOrder (ft : Nat) : CS :=
  (.seq (.asg (.nm 2) (.prim .lrng (.acons (.var 1) .anil)))
  (.seq (.asg (.nm 3) (.lst .anil))
  (.seq (.forr (.nm 4) (.r1 (.var 1))
    (.seq (.expr (.meth .append (.var 3) (.acons (.meth .popAt (.var 2) (.acons (.call ft (.acons (.var 0) (.acons (.prim .len (.acons (.var 2) .anil)) .anil))) .anil)) .anil)))
    .nil))
  (.seq (.ret (.prim .tuple (.acons (.var 3) .anil)))
  .nil))))
def cShuffled (fo : Nat) : CS :=
  (.seq (.ret (.prim .tuple (.acons (.comp (.nm 2) (.call fo (.acons (.var 0) (.acons (.prim .len (.acons (.var 1) .anil)) .anil))) none .anil (.prim .idx (.acons (.var 1) (.acons (.var 2) .anil)))) .anil)))
  .nil)
section
variable {ex : XD} {gl : List (Str × D)} {F : List FD} {f ft fo d : Nat} {x1 x2 x3 x4 x5 x6 x7 x8 y1 y2 y3 y4 y5 z1 z2 z3 z4 z5 z6 : Str} {st st2 st3 : Stmt}
theorem ixN_nat {n x : Nat} (h : x < n) : ixN n (x : Int) = some x := by
  unfold ixN
  rw [if_pos (by omega), if_pos (by omega)]
  simp
theorem map_erase {α β : Type} (g : α → β) : ∀ (l : List α) (m : Nat), (l.map g).eraseIdx m = (l.eraseIdx m).map g
  | [], _ => rfl
  | _ :: _, 0 => rfl
  | a :: l, m + 1 => by simp [map_erase g l m]
theorem perm_erase {α : Type} : ∀ (l : List α) (m : Nat) (h : m < l.length), (l[m] :: l.eraseIdx m).Perm l
  | [], _, h => by simp at h
  | _ :: _, 0, _ => .refl _
  | a :: l, m + 1, h => by
    have ih := perm_erase l m (by simpa using h)
    simp only [List.getElem_cons_succ, List.eraseIdx_cons_succ]
    exact (List.Perm.swap _ _ _).trans (ih.cons a)
def natD (n : Nat) : D := .int (n : Int)
theorem cleans_nats {n : Nat} : ∀ xs : List Nat, D.cleans n (xs.map natD)
  | [] => trivial
  | _ :: xs => by simp only [List.map_cons, D.cleans]; exact ⟨trivial, cleans_nats xs⟩
theorem take2_spec {xs : List Int} {m : Int} {r : Hd} {Q : PD} (hf : F[f]? = some ⟨x1, [x2, x3], [x4, x5], st, cTake⟩) (hm : 0 < m) (q : ∀ (n : Nat) (ys : List Int), (n : Int) < m → Q (natD n) (.lst (ys.map D.int) :: r)) :
    wpCall gl F (d+1) f [.loc 0, .int m] (.lst (xs.map D.int) :: r) Q ex := by
  refine take_spec hf hm (xs := xs) rfl fun n ys h0 h1 => ?_
  have := q n.toNat ys (by omega)
  unfold natD at this
  rw [Int.toNat_of_nonneg h0] at this
  exact this
theorem order_spec {n : Nat} {xs : List Int} {r : Hd} {Q : PD} (hf : F[f]? = some ⟨y1, [y2, y3], [x1, x2, x3, x4, x5], st, cOrder ft⟩) (ht : F[ft]? = some ⟨z1, [z2, z3], [z4, z5], st2, cTake⟩) (hn : n ≤ 1000)
    (q : ∀ (is : List Nat) (ys : List Int), is.Perm (List.range n) → Q (.tup (is.map natD)) (.lst (ys.map D.int) :: r)) :
    wpCall gl F (d+2) f [.loc 0, .int n] (.lst (xs.map D.int) :: r) Q ex := by
  have hz : sizeLine > 200000 := by decide
  refine call_of hf rfl ?_
  simp [startD, cOrder]
  refine ⟨by omega, ?_⟩
  refine nxt_of ?_
  simp
  refine nxt_of ?_
  simp
  refine ⟨by omega, ?_⟩
  have eR : ((List.range n).map fun (i : Nat) => D.int (0 + (i : Int))) = (List.range n).map natD := List.map_congr_left fun i _ => by unfold natD; simp
  refine for_range (fun i τ h' => ∃ (ls fs : List Nat) (ys : List Int) (t : Option D), h' = .lst (ys.map D.int) :: (r ++ [.lst (ls.map natD), .lst (fs.map natD)]) ∧ τ = [some (.loc 0), some (.int n), some (.loc (r.length + 1)), some (.loc (r.length + 2)), t] ∧ fs.length = i ∧ (fs ++ ls).Perm (List.range n))
    ⟨List.range n, [], xs, _, by simp [natD], rfl, rfl, by simp⟩ (fun _ => trivial) ?_ ?_
  · rintro i τ h' k hi ⟨ls, fs, ys, t, rfl, rfl, hl, hp⟩ hk
    have hlen := hp.length_eq
    simp at hlen
    simp
    refine take2_spec ht (by omega) fun m ys hm => ?_
    have hm : m < ls.length := by simpa using hm
    simp [natD, ixN_nat hm, hm]
    refine ⟨by omega, by omega, hk _ _ ⟨ls.eraseIdx m, fs ++ [ls[m]], ys, _, ?_, rfl, by simp [hl], ?_⟩⟩
    · rw [map_erase, List.map_append]
      rfl
    · rw [List.append_assoc]
      exact ((List.Perm.append_left fs (perm_erase ls m hm)).trans hp)
  · rintro τ h' ⟨ls, fs, ys, t, rfl, rfl, hl, hp⟩
    have hlen := hp.length_eq
    simp at hlen
    have hl : fs.length = n := by simpa using hl
    have e : ls = [] := List.eq_nil_of_length_eq_zero (by omega)
    subst e
    refine nxt_of ?_
    simp
    exact gc_dr Ex.refl.app (cleans_nats fs) (q fs ys (by simpa using hp))
theorem perm_get {α : Type} [Inhabited α] {as : List α} {is : List Nat} (h : is.Perm (List.range as.length)) : (is.map fun i => as.getD i default).Perm as := by
  have := h.map fun i => as.getD i default
  refine this.trans (.of_eq ?_)
  apply List.ext_getElem
  · simp
  · intro i h1 h2
    have : i < as.length := by simpa using h1
    simp [List.getD, this]
/-- a tuple's, or a list's parts shuffled -/
theorem shuffled_spec {α : Type} [Inhabited α] {g : α → D} {as : List α} {x : D} {xs : List Int} {r : Hd} {Q : PD} (hf : F[f]? = some ⟨x1, [x2, x3], [x4, x5, x6], st3, cShuffled fo⟩) (ho : F[fo]? = some ⟨y1, [y2, y3], [z1, z2, z3, z4, z5], st, cOrder ft⟩) (ht : F[ft]? = some ⟨y4, [y5, z6], [x7, x8], st2, cTake⟩) (hn : as.length ≤ 1000)
    (hx : ∀ ys : List Int, seqOf (.lst (ys.map D.int) :: r) x = some (as.map g)) (hc : ∀ (n : Nat) (a : α), (g a).clean n) (hm : ∀ (a : α) (h : Hd) (Q : PD), mat (g a) h Q = Q (g a) h)
    (q : ∀ (bs : List α) (ys : List Int), bs.Perm as → Q (.tup (bs.map g)) (.lst (ys.map D.int) :: r)) :
    wpCall gl F (d+3) f [.loc 0, x] (.lst (xs.map D.int) :: r) Q ex := by
  have hz : sizeLine > 200000 := by decide
  refine call_of hf rfl ?_
  simp [startD, cShuffled]
  rw [x_len (hx xs)]
  simp
  refine order_spec ho ht hn fun is ys hp => ?_
  simp
  have hl := hp.length_eq
  simp at hl
  refine comp_on natD (fun i => g (as.getD i default)) (by omega) trivial (fun i hi k hk => ?_) ?_
  · have hi' : i < as.length := by simpa using hp.mem_iff.mp hi
    simp only [b_nm, natD]
    simp
    rw [x_idx (hx ys)]
    have e : atI (as.map g) (i : Int) = some (g (as.getD i default)) := by
      refine atI_map_nat ?_
      rw [List.getElem?_eq_getElem hi', List.getD, List.getElem?_eq_getElem hi']
      rfl
    rw [e]
    simp [hm]
    exact hk
  · simp
    refine gc_dr Ex.refl ?_ ?_
    · have key : ∀ js : List Nat, D.cleans (r.length + 1) (js.map fun i => g (as.getD i default)) := fun js => by
        induction js with
        | nil => trivial
        | cons j js ih => simp only [List.map_cons, D.cleans]; exact ⟨hc _ _, ih⟩
      exact key is
    · have := q (is.map fun i => as.getD i default) ys (perm_get hp)
      rw [List.map_map] at this
      exact this
end
end Py

namespace Py
open PySem PySem.Spec PyProof.Rows L2

/-! ### signatures, that laws share -/
/-- a declaration -/
abbrev Dc := Str × List Str × Str × Option Int × Option Int
def od : Option Int → D
  | none => .non
  | some i => .int i
def dD (d : Dc) : D := .tup [.str d.1, .tup (d.2.1.map D.str), .str d.2.2.1, od d.2.2.2.1, od d.2.2.2.2]
@[simp ↓] theorem m_od {o : Option Int} {h : Hd} {Q : PD} : mat (od o) h Q = Q (od o) h := by cases o <;> rfl
@[simp] theorem non_od {o : Option Int} : isNonD (od o) = o.isNone := by cases o <;> rfl
def reserved : List Str := ["all", "some", "not", "if", "same", "most", "plus", "times", "yes", "no"]
def letters : Str := "abcdefghijklmnopqrstuvwxyz"
def digits : Str := "0123456789"
def okSign (c : Nat) : Bool := decide (c ∈ letters.cps) || decide (c ∈ digits.cps)
def okName (x : Str) : Bool := decide (1 ≤ x.length) && decide (x.length ≤ 20) && !decide (x ∈ reserved) && (match x.cps.toList with | c :: _ => decide (c ∈ letters.cps) | [] => false) && x.cps.toList.all okSign
def okBounds (sort : Str) (low high : Option Int) : Bool := if sort = "whole" then (match low, high with | some l, some h => decide (l ≤ h) | _, _ => false) else low.isNone && high.isNone
def sorts : List Str := ["truth", "whole", "thing"]
def kinds : List Str := ["whole", "thing"]
def okDc (d : Dc) : Bool := okName d.1 && decide (d.2.2.1 ∈ sorts) && d.2.1.all (fun a => decide (a ∈ kinds)) && okBounds d.2.2.1 d.2.2.2.1 d.2.2.2.2
section
variable {h : Hd} {Q : PD}
@[simp ↓] theorem x_d0 {a : Dc} : px .idx [dD a, .int 0] h Q = Q (.str a.1) h := by unfold dD; simp
@[simp ↓] theorem x_d1 {a : Dc} : px .idx [dD a, .int 1] h Q = Q (.tup (a.2.1.map D.str)) h := by unfold dD; simp
@[simp ↓] theorem x_d2 {a : Dc} : px .idx [dD a, .int 2] h Q = Q (.str a.2.2.1) h := by unfold dD; simp
@[simp ↓] theorem x_d3 {a : Dc} : px .idx [dD a, .int 3] h Q = Q (od a.2.2.2.1) h := by unfold dD; simp
theorem atI_four {x y z u v : D} {xs : List D} : atI (x :: y :: z :: u :: v :: xs) 4 = some v := by
  have e : ixN (x :: y :: z :: u :: v :: xs).length 4 = some 4 := by unfold ixN; rw [if_pos (by omega), if_pos (by simp; omega)]; rfl
  unfold atI; rw [e]; rfl
@[simp ↓] theorem x_d4 {a : Dc} : px .idx [dD a, .int 4] h Q = Q (od a.2.2.2.2) h := by unfold dD; simp [atI_four]
@[simp ↓] theorem m_dD {a : Dc} : mat (dD a) h Q = Q (dD a) h := rfl
@[simp] theorem non_dD {a : Dc} : isNonD (dD a) = false := rfl
end
section
variable {h : Hd} {Q : PD}
theorem in_strs {x : Str} {ns : List Str} : ((ns.map D.str).any fun z => feq z (.str x)) = decide (x ∈ ns) := by
  induction ns with
  | nil => simp
  | cons n ns ih =>
    rw [List.map_cons, List.any_cons, ih]
    by_cases e : n = x
    · subst e; simp [feq]
    · simp [feq, e, Ne.symm e]
theorem flat_strs {x : Str} {ns : List Str} : flatD (.str x) = true ∧ (ns.map D.str).all flatD = true ∧ ¬ (Py.flatB (.str x) = true ∧ (ns.map D.str).any flatI = true) ∧ ¬ (flatI (.str x) = true ∧ (ns.map D.str).any Py.flatB = true) := by
  refine ⟨rfl, ?_, fun z => by simp [Py.flatB] at z, fun z => by simp [flatI] at z⟩
  simp [flatD]
theorem x_inS {x : Str} {y : D} {ns : List Str} (e : seqOf h y = some (ns.map D.str)) : px .in_ [.str x, y] h Q = Q (.bl (decide (x ∈ ns))) h := by
  rw [x_in e flat_strs, in_strs]
theorem x_notinS {x : Str} {y : D} {ns : List Str} (e : seqOf h y = some (ns.map D.str)) : px .notin [.str x, y] h Q = Q (.bl (!decide (x ∈ ns))) h := by
  rw [x_notin e flat_strs, in_strs]
end
/-- small texts, few arguments -/
def smallD (x : Dc) : Prop := x.1.length ≤ 1000 ∧ x.2.1.length ≤ 1000
def cDeclared : CS :=
  (.seq (.forr (.nm 2) (.var 0)
    (.seq (.ite (.prim .eq (.acons (.prim .idx (.acons (.var 2) (.acons (.cst (.int 0)) .anil))) (.acons (.var 1) .anil)))
      (.seq (.ret (.var 2))
      .nil)
      .nil)
    .nil))
  (.seq (.ret (.cst .non))
  .nil))
def cCell : CS :=
  (.seq (.ite (.prim .eq (.acons (.prim .len (.acons (.var 0) .anil)) (.acons (.cst (.int 0)) .anil)))
    (.seq (.ret (.cst (.int 0)))
    .nil)
    .nil)
  (.seq (.asg (.nm 2) (.prim .int1 (.acons (.prim .idx (.acons (.var 0) (.acons (.prim .mod (.acons (.prim .int1 (.acons (.var 1) .anil)) (.acons (.prim .len (.acons (.var 0) .anil)) .anil))) .anil))) .anil)))
  (.seq (.ret (.prim .mul (.acons (.prim .mod (.acons (.prim .abs (.acons (.var 2) .anil)) (.acons (.prim .pow (.acons (.cst (.int 10)) (.acons (.cst (.int 28)) .anil))) .anil))) (.acons (.prim .idx (.acons (.lst (.acons (.cst (.int 1)) (.acons (.prim .neg (.acons (.cst (.int 1)) .anil)) .anil))) (.acons (.prim .int1 (.acons (.prim .lt (.acons (.var 2) (.acons (.cst (.int 0)) .anil))) .anil)) .anil))) .anil))))
  .nil)))
def cSignature (ft fs : Nat) : CS :=
  (.seq (.asg (.nm 1) (.lst .anil))
  (.seq (.forr (.nm 2) (.r1 (.prim .add (.acons (.cst (.int 1)) (.acons (.call ft (.acons (.var 0) (.acons (.cst (.int 2)) .anil))) .anil))))
    (.seq (.expr (.meth .append (.var 1) (.acons (.tup (.acons (.prim .idx (.acons (.lst (.acons (.cst (.str "p")) (.acons (.cst (.str "q")) .anil))) (.acons (.var 2) .anil))) (.acons (.tup .anil) (.acons (.cst (.str "truth")) (.acons (.cst .non) (.acons (.cst .non) .anil)))))) .anil)))
    .nil))
  (.seq (.forr (.nm 2) (.r1 (.prim .add (.acons (.cst (.int 1)) (.acons (.call ft (.acons (.var 0) (.acons (.cst (.int 2)) .anil))) .anil))))
    (.seq (.asg (.nm 3) (.prim .sub (.acons (.call ft (.acons (.var 0) (.acons (.cst (.int 5)) .anil))) (.acons (.cst (.int 2)) .anil))))
    (.seq (.expr (.meth .append (.var 1) (.acons (.tup (.acons (.prim .idx (.acons (.lst (.acons (.cst (.str "x")) (.acons (.cst (.str "y2")) .anil))) (.acons (.var 2) .anil))) (.acons (.tup .anil) (.acons (.cst (.str "whole")) (.acons (.var 3) (.acons (.prim .add (.acons (.var 3) (.acons (.call ft (.acons (.var 0) (.acons (.cst (.int 4)) .anil))) .anil))) .anil)))))) .anil)))
    .nil)))
  (.seq (.ite (.prim .gt (.acons (.call ft (.acons (.var 0) (.acons (.cst (.int 3)) .anil))) (.acons (.cst (.int 0)) .anil)))
    (.seq (.forr (.nm 2) (.r1 (.prim .add (.acons (.cst (.int 1)) (.acons (.call ft (.acons (.var 0) (.acons (.cst (.int 2)) .anil))) .anil))))
      (.seq (.expr (.meth .append (.var 1) (.acons (.tup (.acons (.prim .idx (.acons (.lst (.acons (.cst (.str "a")) (.acons (.cst (.str "b")) .anil))) (.acons (.var 2) .anil))) (.acons (.tup .anil) (.acons (.cst (.str "thing")) (.acons (.cst .non) (.acons (.cst .non) .anil)))))) .anil)))
      .nil))
    (.seq (.ite (.prim .eq (.acons (.call ft (.acons (.var 0) (.acons (.cst (.int 2)) .anil))) (.acons (.cst (.int 0)) .anil)))
      (.seq (.expr (.meth .append (.var 1) (.acons (.tup (.acons (.cst (.str "g")) (.acons (.tup (.acons (.cst (.str "thing")) .anil)) (.acons (.cst (.str "thing")) (.acons (.cst .non) (.acons (.cst .non) .anil)))))) .anil)))
      .nil)
      .nil)
    (.seq (.ite (.prim .eq (.acons (.call ft (.acons (.var 0) (.acons (.cst (.int 2)) .anil))) (.acons (.cst (.int 0)) .anil)))
      (.seq (.expr (.meth .append (.var 1) (.acons (.tup (.acons (.cst (.str "near")) (.acons (.prim .idx (.acons (.tup (.acons (.lst (.acons (.cst (.str "thing")) (.acons (.cst (.str "thing")) .anil))) (.acons (.lst (.acons (.cst (.str "thing")) (.acons (.cst (.str "whole")) .anil))) (.acons (.lst (.acons (.cst (.str "thing")) .anil)) .anil)))) (.acons (.call ft (.acons (.var 0) (.acons (.cst (.int 3)) .anil))) .anil))) (.acons (.cst (.str "truth")) (.acons (.cst .non) (.acons (.cst .non) .anil)))))) .anil)))
      (.seq (.setIdx (.var 1) (.prim .neg (.acons (.cst (.int 1)) .anil)) (.prim .add (.acons (.tup (.acons (.prim .idx (.acons (.prim .idx (.acons (.var 1) (.acons (.prim .neg (.acons (.cst (.int 1)) .anil)) .anil))) (.acons (.cst (.int 0)) .anil))) (.acons (.prim .tuple (.acons (.prim .idx (.acons (.prim .idx (.acons (.var 1) (.acons (.prim .neg (.acons (.cst (.int 1)) .anil)) .anil))) (.acons (.cst (.int 1)) .anil))) .anil)) .anil))) (.acons (.prim .slLo (.acons (.prim .idx (.acons (.var 1) (.acons (.prim .neg (.acons (.cst (.int 1)) .anil)) .anil))) (.acons (.cst (.int 2)) .anil))) .anil))))
      .nil))
      .nil)
    .nil)))
    .nil)
  (.seq (.ite (.prim .eq (.acons (.call ft (.acons (.var 0) (.acons (.cst (.int 2)) .anil))) (.acons (.cst (.int 0)) .anil)))
    (.seq (.asg (.nm 3) (.prim .sub (.acons (.call ft (.acons (.var 0) (.acons (.cst (.int 4)) .anil))) (.acons (.cst (.int 2)) .anil))))
    (.seq (.expr (.meth .append (.var 1) (.acons (.tup (.acons (.cst (.str "far")) (.acons (.prim .idx (.acons (.tup (.acons (.tup (.acons (.cst (.str "whole")) .anil)) (.acons (.tup (.acons (.cst (.str "whole")) (.acons (.cst (.str "whole")) .anil))) .anil))) (.acons (.call ft (.acons (.var 0) (.acons (.cst (.int 2)) .anil))) .anil))) (.acons (.cst (.str "whole")) (.acons (.var 3) (.acons (.prim .add (.acons (.prim .add (.acons (.var 3) (.acons (.cst (.int 1)) .anil))) (.acons (.call ft (.acons (.var 0) (.acons (.cst (.int 3)) .anil))) .anil))) .anil)))))) .anil)))
    .nil))
    .nil)
  (.seq (.ret (.prim .slHi (.acons (.call fs (.acons (.var 0) (.acons (.var 1) .anil))) (.acons (.cst (.int 8)) .anil))))
  .nil))))))
section
variable {ex : XD} {gl : List (Str × D)} {F : List FD} {f ft fo fs d : Nat} {x1 x2 x3 x4 x5 x6 x7 x8 y1 y2 y3 y4 y5 y6 z1 z2 z3 z4 z5 z6 w1 w2 w3 w4 w5 w6 : Str} {st st2 st3 st4 : Stmt} {h : Hd} {Q : PD}
theorem declared_spec (hf : F[f]? = some ⟨x1, [x2, x3], [x4, x5, x6], st, cDeclared⟩) {S : List Dc} {n : Str} (q : Q (match S.find? (fun x => decide (x.1 = n)) with | some x => dD x | none => .non) h) : wpCall gl F (d+1) f [.tup (S.map dD), .str n] h Q ex := by
  refine call_of hf rfl ?_
  simp [startD, cDeclared]
  refine for_inv (fun i τ h' => h' = h ∧ (S.take i).find? (fun x => decide (x.1 = n)) = none ∧ ∃ t, τ = [some (.tup (S.map dD)), some (.str n), t]) ⟨rfl, by simp, _, rfl⟩ ?_ ?_
  · rintro i x τ h' k hx ⟨rfl, hg, t, rfl⟩ hk
    refine ⟨trivial, ?_⟩
    rw [List.getElem?_map, Option.map_eq_some_iff] at hx
    obtain ⟨a, ha, rfl⟩ := hx
    have et : S.take (i + 1) = S.take i ++ [a] := by rw [List.take_succ, ha]; rfl
    simp
    by_cases e : a.1 = n
    · rw [if_pos e]
      refine nxt_of ?_
      simp
      have : S.find? (fun x => decide (x.1 = n)) = some a := by
        have es : S = S.take (i + 1) ++ S.drop (i + 1) := (List.take_append_drop _ _).symm
        rw [es, et, List.append_assoc, List.find?_append, hg, List.singleton_append, List.find?_cons_of_pos (by simpa using e)]
        rfl
      rw [this] at q
      exact gc_same q
    · rw [if_neg e]
      refine hk _ _ ⟨rfl, ?_, _, rfl⟩
      rw [et, List.find?_append, hg]
      simp [e]
  · rintro τ h' ⟨rfl, hg, t, rfl⟩
    have hg : S.find? (fun x => decide (x.1 = n)) = none := by simpa using hg
    rw [hg] at q
    refine ⟨trivial, nxt_of ?_⟩
    simp
    exact gc_same q
theorem snoc_D {S : List Dc} {x : Dc} : S.map dD ++ [dD x] = (S ++ [x]).map dD := by rw [List.map_append]; rfl
def C28 : Int := 10000000000000000000000000000
theorem cell_spec (hf : F[f]? = some ⟨x1, [x2, x3], [x4, x5, x6], st, cCell⟩) {ns : List Int} {n : Nat} (q : ∀ c : Int, -C28 < c → c < C28 → Q (.int c) h) : wpCall gl F (d+1) f [.rl (ns.map D.int), .int n] h Q ex := by
  have hz : sizeLine > 200000 := by decide
  refine call_of hf rfl ?_
  simp [startD, cCell]
  split
  · refine nxt_of ?_
    simp
    exact gc_same (q 0 (by decide) (by decide))
  · rename_i hn
    refine nxt_of ?_
    have hl : (0 : Int) < ns.length := by
      have : ns.length ≠ 0 := by simpa using hn
      omega
    simp
    have r0 := Int.fmod_nonneg_of_pos (n : Int) hl
    have r1 := Int.fmod_lt_of_pos (n : Int) hl
    have e : ∃ c, atI (ns.map D.int) (Int.fmod (n : Int) ns.length) = some (.int c) := ⟨_, atI_ints r0 r1 rfl⟩
    obtain ⟨c, e⟩ := e
    simp [e]
    refine ⟨by omega, nxt_of ?_⟩
    simp
    refine ⟨by omega, ?_⟩
    have b0 : 0 ≤ Int.fmod (if c < 0 then -c else c) C28 := Int.fmod_nonneg_of_pos _ (by decide)
    have b1 : Int.fmod (if c < 0 then -c else c) C28 < C28 := Int.fmod_lt_of_pos _ (by decide)
    rw [show (10000000000000000000000000000 : Int) = C28 from rfl]
    generalize Int.fmod (if c < 0 then -c else c) C28 = m at b0 b1 ⊢
    by_cases hc : c < 0
    · simp [hc]
      exact ⟨.inl (.inr ⟨by decide, by decide⟩), gc_same (q _ (by omega) (by omega))⟩
    · simp [hc]
      exact ⟨.inl (.inr ⟨by decide, by decide⟩), gc_same (q _ (by omega) (by omega))⟩
theorem od_data {o : Option Int} {m : Nat} : data (m + 1) (od o) := by cases o <;> trivial
theorem data_strs {m : Nat} {as : List Str} (h : as.length ≤ 100000) : data (m + 2) (.tup (as.map D.str)) := ⟨by simpa using h, fun x hx => by
  obtain ⟨a, _, rfl⟩ := List.mem_map.mp hx
  trivial⟩
theorem data_dD {x : Dc} (hx : smallD x) : data 3 (dD x) := by
  refine ⟨by simp, fun y hy => ?_⟩
  simp only [List.mem_cons, List.not_mem_nil, or_false] at hy
  rcases hy with rfl | rfl | rfl | rfl | rfl
  · trivial
  · exact data_strs (by have := hx.2; omega)
  · trivial
  · exact od_data
  · exact od_data
theorem data_S {S : List Dc} (hs : ∀ x ∈ S, smallD x) (hl : S.length ≤ 100000) : data 4 (.tup (S.map dD)) := ⟨by simpa using hl, fun y hy => by
  obtain ⟨a, ha, rfl⟩ := List.mem_map.mp hy
  exact data_dD (hs a ha)⟩
theorem lay_strs : ∀ {as : List Str}, (∀ a ∈ as, (D.str a).pd.canLay0 = true) → PyData.canLayAll0 (D.pds (as.map D.str)) = true
  | [], _ => rfl
  | a :: as, h => by
    simp only [List.map_cons, D.pds, PyData.canLayAll0, Bool.and_eq_true]
    exact ⟨h a List.mem_cons_self, lay_strs fun b hb => h b (List.mem_cons_of_mem _ hb)⟩
theorem lay_od {o : Option Int} : (od o).pd.canLay0 = true := by cases o <;> rfl
theorem lay_name {x : Str} (h : okName x = true) : (D.str x).pd.canLay0 = true := by
  unfold okName at h
  rw [Bool.and_eq_true] at h
  have h := List.all_eq_true.mp h.2
  show (x.cps.all _) = true
  rw [Array.all_eq_true_iff_forall_mem]
  intro c hc
  have hc := h c (by simpa using hc)
  unfold okSign at hc
  have l1 : ∀ c ∈ letters.cps, c < 0x110000 := by decide
  have l2 : ∀ c ∈ digits.cps, c < 0x110000 := by decide
  rw [Bool.or_eq_true, decide_eq_true_eq, decide_eq_true_eq] at hc
  rw [decide_eq_true_eq]
  rcases hc with hc | hc
  · exact l1 c hc
  · exact l2 c hc
theorem lay_dD {x : Dc} (g : okDc x = true) : (dD x).pd.canLay0 = true := by
  obtain ⟨n, as, s, lo, hi⟩ := x
  unfold okDc at g
  simp only [Bool.and_eq_true, decide_eq_true_eq] at g
  obtain ⟨⟨⟨g1, g2⟩, g3⟩, _⟩ := g
  have k1 : ∀ a ∈ kinds, (D.str a).pd.canLay0 = true := by decide +kernel
  have k2 : ∀ a ∈ sorts, (D.str a).pd.canLay0 = true := by decide +kernel
  have g3 := List.all_eq_true.mp g3
  unfold dD
  simp only [D.pd, D.pds, PyData.canLay0, PyData.canLayAll0, Bool.and_eq_true]
  refine ⟨lay_name g1, lay_strs fun a ha => k1 a (by simpa using g3 a ha), k2 s g2, lay_od, lay_od, trivial⟩
theorem lay_all : ∀ {S : List Dc}, (∀ x ∈ S, okDc x = true) → PyData.canLayAll0 (D.pds (S.map dD)) = true
  | [], _ => rfl
  | x :: S, g => by
    simp only [List.map_cons, D.pds, PyData.canLayAll0, Bool.and_eq_true]
    exact ⟨lay_dD (g x List.mem_cons_self), lay_all fun y hy => g y (List.mem_cons_of_mem _ hy)⟩
theorem okDc_parts {x : Dc} (g : okDc x = true) : okName x.1 = true ∧ x.2.2.1 ∈ sorts ∧ (∀ a ∈ x.2.1, a ∈ kinds) ∧ okBounds x.2.2.1 x.2.2.2.1 x.2.2.2.2 = true := by
  unfold okDc at g
  simp only [Bool.and_eq_true, decide_eq_true_eq] at g
  obtain ⟨⟨⟨g1, g2⟩, g3⟩, g4⟩ := g
  exact ⟨g1, g2, fun a ha => by simpa using List.all_eq_true.mp g3 a ha, g4⟩
theorem name_len {x : Str} (g : okName x = true) : x.length ≤ 20 := by
  unfold okName at g
  simp only [Bool.and_eq_true, decide_eq_true_eq] at g
  exact g.1.1.1.2
def width (x : Dc) : Int := if x.2.2.1 = "truth" then 2 else x.2.2.2.2.getD 0 - x.2.2.2.1.getD 0 + 1
def wideOk (x : Dc) : Prop := (x.2.2.1 = "truth" ∨ ∃ l u, x.2.2.2.1 = some l ∧ x.2.2.2.2 = some u) ∧ (width x).natAbs < 2 ^ 100
/-! the drawn signature -/
def drawnOk (x : Dc) : Prop := okDc x = true ∧ x.2.1.length ≤ 2 ∧ (x.2.2.1 ≠ "thing" → wideOk x)
@[simp] theorem look_mid {a o : DO} {r e : Hd} : (a :: (r ++ o :: e))[r.length + 1]? = some o := by simp
@[simp] theorem look_past2 {o : DO} {r e : Hd} {j : Nat} : (r ++ o :: e)[r.length + (j + 1)]? = e[j]? := by simp [List.getElem?_append_right]
@[simp] theorem look_past {a o : DO} {r e : Hd} {j : Nat} : (a :: (r ++ o :: e))[r.length + (j + 1) + 1]? = e[j]? := by simp [List.getElem?_append_right]
theorem atI_last {L : List D} {x : D} : atI (L ++ [x]) (-1) = some x := by
  unfold atI ixN
  rw [if_neg (by omega), if_pos (by simp; omega)]
  have : (-1 + ((L ++ [x]).length : Int)).toNat = L.length := by simp; omega
  rw [this]
  simp
@[simp] theorem set_mid {a o o' : DO} {r e : Hd} : (a :: (r ++ o :: e)).set (r.length + 1) o' = a :: (r ++ o' :: e) := by simp
/-- what was drawn so far: names of N -/
def SI (r : Hd) (N : List Str) (τ : Sd) (h : Hd) : Prop := ∃ (S : List Dc) (ys : List Int) (e : Hd) (t2 t3 : Option D), h = .lst (ys.map D.int) :: (r ++ .lst (S.map dD) :: e) ∧ τ = [some (.loc 0), some (.loc (r.length + 1)), t2, t3] ∧ (∀ x ∈ S, drawnOk x) ∧ (S.map (·.1)).Sublist N
theorem SI.len {S : List Dc} {N : List Str} (h : (S.map (·.1)).Sublist N) : S.length ≤ N.length := by simpa using h.length_le
theorem SI.mk' {r : Hd} {N : List Str} {S : List Dc} {x : Dc} {ys : List Int} {e : Hd} {t2 t3 : Option D} {L : List D} (hL : L = S.map dD ++ [dD x]) (hs : ∀ x ∈ S, drawnOk x) (hn : (S.map (·.1)).Sublist N) (hx : drawnOk x) :
    SI r (N ++ [x.1]) [some (.loc 0), some (.loc (r.length + 1)), t2, t3] (.lst (ys.map D.int) :: (r ++ .lst L :: e)) := by
  refine ⟨S ++ [x], ys, e, t2, t3, by rw [hL, snoc_D], rfl, fun y hy => ?_, ?_⟩
  · rcases List.mem_append.mp hy with hy | hy
    · exact hs y hy
    · simp at hy; subst hy; exact hx
  · rw [List.map_append]
    exact hn.append (List.Sublist.refl _)
theorem SI.weak {r : Hd} {N M : List Str} {τ : Sd} {h : Hd} (s : SI r N τ h) (w : N.Sublist M) : SI r M τ h := by
  obtain ⟨S, ys, e, t2, t3, h1, h2, h3, h4⟩ := s
  exact ⟨S, ys, e, t2, t3, h1, h2, h3, h4.trans w⟩
theorem okDc_mk {n s : Str} {as : List Str} {lo hi : Option Int} (h1 : okName n = true) (h2 : s ∈ sorts) (h3 : ∀ a ∈ as, a ∈ kinds) (h4 : okBounds s lo hi = true) : okDc (n, as, s, lo, hi) = true := by
  unfold okDc
  simp only [Bool.and_eq_true, decide_eq_true_eq]
  exact ⟨⟨⟨h1, h2⟩, List.all_eq_true.mpr fun a ha => decide_eq_true (h3 a ha)⟩, h4⟩
def pool : List Str := ["p", "q", "x", "y2", "a", "b", "g", "near", "far"]
theorem pool_ok : ∀ n ∈ pool, okName n = true := by decide +kernel
theorem whole_ok {n : Str} {as : List Str} {l u : Int} (hn : okName n = true) (ha : ∀ a ∈ as, a ∈ kinds) (hl : as.length ≤ 2) (h1 : l ≤ u) (h2 : u - l < C28) : drawnOk (n, as, "whole", some l, some u) := by
  refine ⟨okDc_mk hn (by decide) ha ?_, hl, fun _ => ⟨.inr ⟨l, u, rfl, rfl⟩, ?_⟩⟩
  · unfold okBounds
    rw [if_pos rfl]
    exact decide_eq_true h1
  · have : width (n, as, "whole", some l, some u) = u - l + 1 := by
      unfold width
      rw [if_neg (show ("whole" : Str) ≠ "truth" by decide)]
      rfl
    rw [this]
    have c : (C28 : Int) < 2 ^ 100 := by decide
    omega
theorem truth_ok {n : Str} {as : List Str} (hn : okName n = true) (ha : ∀ a ∈ as, a ∈ kinds) (hl : as.length ≤ 2) : drawnOk (n, as, "truth", none, none) := by
  refine ⟨okDc_mk hn (by decide) ha ?_, hl, fun _ => ⟨.inl rfl, ?_⟩⟩
  · unfold okBounds
    rw [if_neg (show ("truth" : Str) ≠ "whole" by decide)]
    rfl
  · have : width (n, as, "truth", none, none) = 2 := by
      unfold width
      rw [if_pos rfl]
    rw [this]
    decide
theorem thing_ok {n : Str} {as : List Str} (hn : okName n = true) (ha : ∀ a ∈ as, a ∈ kinds) (hl : as.length ≤ 2) : drawnOk (n, as, "thing", none, none) := by
  refine ⟨okDc_mk hn (by decide) ha ?_, hl, fun z => absurd rfl z⟩
  unfold okBounds
  rw [if_neg (show ("thing" : Str) ≠ "whole" by decide)]
  rfl
def n1 : List Str := ["p", "q"]
def n2 : List Str := ["x", "y2"]
def n3 : List Str := ["a", "b"]
def tlS : CS → CS
  | .seq _ r => r
  | c => c
def nthS : Nat → CS → CS
  | 0, c => c
  | n + 1, c => nthS n (tlS c)
def thenS : CS → CS
  | .ite _ a _ => a
  | c => c
def hdS : CS → CS
  | .seq s _ => s
  | c => c
def nearC (ft fs : Nat) : CS := nthS 2 (thenS (hdS (nthS 3 (cSignature ft fs))))
theorem two_get {a b : Str} {i : Nat} (hi : i < 2) : ∃ x : Str, ([a, b] : List Str)[i]? = some x ∧ atI [D.str a, D.str b] (i : Int) = some (.str x) ∧ ([a, b] : List Str).take (i + 1) = ([a, b] : List Str).take i ++ [x] := by
  have h : i = 0 ∨ i = 1 := by omega
  rcases h with rfl | rfl
  · exact ⟨a, rfl, by simp, rfl⟩
  · exact ⟨b, rfl, by simp, rfl⟩
theorem clean_dD {n : Nat} (a : Dc) : (dD a).clean n := by
  obtain ⟨x, as, s, lo, hi⟩ := a
  have ho : ∀ o : Option Int, (od o).clean n := fun o => by cases o <;> trivial
  unfold dD
  simp only [D.clean, D.cleans]
  exact ⟨trivial, cleans_strs as, trivial, ho lo, ho hi, trivial⟩
theorem take_sub {α : Type} {L : List α} {n : Nat} : (L.take n).Sublist L := List.take_sublist _ _
theorem signature_spec (hf : F[f]? = some ⟨w1, [w2], [w3, w4, w5, w6], st4, cSignature ft fs⟩) (hs0 : F[fs]? = some ⟨x1, [x2, x3], [x4, x5, x6], st3, cShuffled fo⟩) (ho : F[fo]? = some ⟨y1, [y2, y3], [z1, z2, z3, z4, z5], st, cOrder ft⟩) (ht : F[ft]? = some ⟨y4, [y5, z6], [x7, x8], st2, cTake⟩) {xs : List Int} {r : Hd} (q : ∀ (S : List Dc) (ys : List Int), (∀ x ∈ S, drawnOk x) → (S.map (·.1)).Nodup → (∀ n ∈ S.map (·.1), n ∈ pool) → S.length ≤ 8 → Q (.tup (S.map dD)) (.lst (ys.map D.int) :: r)) :
    wpCall gl F (d+4) f [.loc 0] (.lst (xs.map D.int) :: r) Q ex := by
  have hz : sizeLine > 200000 := by decide
  have nm : ∀ n ∈ pool, okName n = true := pool_ok
  refine call_of hf rfl ?_
  simp [startD, cSignature]
  refine nxt_of ?_
  simp
  refine take2_spec ht (by omega) fun m ys hm => ?_
  have hm : m < 2 := by omega
  simp [natD]
  refine ⟨by omega, ?_⟩
  rw [show (1 + (m : Int)).toNat = m + 1 by omega]
  refine for_range (fun i τ h' => SI r (n1.take i) τ h') ⟨[], ys, [], none, none, by simp, by simp, by simp, by simp⟩ (fun _ => trivial) ?_ ?_
  · rintro i τ h' k hi ⟨S, ys, e, t2, t3, rfl, rfl, hs, hn⟩ hk
    have hl := SI.len hn
    have hl : S.length ≤ 2 := by simp [n1] at hl; omega
    obtain ⟨x, g1, g2, g3⟩ := two_get (a := ("p" : Str)) (b := ("q" : Str)) (i := i) (by omega)
    have hx : okName x = true := nm x (by have := List.mem_of_getElem? g1; simp at this; rcases this with rfl | rfl <;> simp [pool])
    simp
    rw [g2]
    simp
    refine ⟨by omega, by omega, by omega, hk _ _ ?_⟩
    rw [n1, g3]
    exact SI.mk' (x := (x, [], "truth", none, none)) rfl hs hn (truth_ok hx (by simp) (by simp))
  rintro τ h' s
  have s : SI r n1 τ h' := s.weak take_sub
  obtain ⟨S, ys, e, t2, t3, rfl, rfl, hs, hn⟩ := s
  refine nxt_of ?_
  simp
  refine take2_spec ht (by omega) fun m ys hm => ?_
  have hm : m < 2 := by omega
  simp [natD]
  refine ⟨by omega, ?_⟩
  rw [show (1 + (m : Int)).toNat = m + 1 by omega]
  refine for_range (fun i τ h' => SI r (n1 ++ n2.take i) τ h') ⟨S, ys, e, t2, t3, rfl, rfl, hs, by simpa using hn⟩ (fun _ => trivial) ?_ ?_
  · rintro i τ h' k hi ⟨S, ys, e, t2, t3, rfl, rfl, hs, hn⟩ hk
    have hl := SI.len hn
    have hl : S.length ≤ 4 := by simp [n1, n2] at hl; omega
    obtain ⟨x, g1, g2, g3⟩ := two_get (a := ("x" : Str)) (b := ("y2" : Str)) (i := i) (by omega)
    have hx : okName x = true := nm x (by have := List.mem_of_getElem? g1; simp at this; rcases this with rfl | rfl <;> simp [pool])
    simp
    refine take2_spec ht (by omega) fun m1 ys hm1 => ?_
    simp [natD]
    refine nxt_of ?_
    simp
    rw [g2]
    simp
    refine ⟨by omega, take2_spec ht (by omega) fun m2 ys hm2 => ?_⟩
    simp [natD]
    refine ⟨by omega, by omega, hk _ _ ?_⟩
    rw [n2, g3, ← List.append_assoc]
    exact SI.mk' (x := (x, [], "whole", some ((m1 : Int) - 2), some ((m1 : Int) - 2 + m2))) rfl hs hn (whole_ok hx (by simp) (by simp) (by omega) (by unfold C28; omega))
  rintro τ h' s
  have s : SI r (n1 ++ n2) τ h' := s.weak ((List.Sublist.refl n1).append take_sub)
  have fin : ∀ (τ : Sd) (h' : Hd), SI r pool τ h' → ws ⟨wpCall gl F (d+3), gcX (DO.lst (xs.map D.int) :: r) ex⟩ gl (.seq (.ret (.prim .slHi (.acons (.call fs (.acons (.var 0) (.acons (.var 1) .anil))) (.acons (.cst (.int 8)) .anil)))) .nil) (endZ (DO.lst (xs.map D.int) :: r) Q) τ h' := by
    rintro τ h' ⟨S, ys, e, t2, t3, rfl, rfl, hs, hn⟩
    have hl := SI.len hn
    have hl : S.length ≤ 9 := hl
    simp
    refine shuffled_spec (g := dD) (as := S) hs0 ho ht (by omega) (fun ys => by simp [seqOf, lstOf]) (fun n a => ?_) (fun a h Q => rfl) fun bs ys hp => ?_
    · exact clean_dD a
    · have e8 : cutD (bs.map dD) none (some 8) = (bs.take 8).map dD := by
        rw [show (8 : Int) = ((8 : Nat) : Int) from rfl, cut_take, List.map_take]
      simp [e8]
      rw [← List.map_take]
      have nd : (S.map (·.1)).Nodup := List.Nodup.sublist hn (by decide +kernel)
      have hb : ∀ x ∈ bs.take 8, x ∈ S := fun x hx => hp.mem_iff.mp (List.mem_of_mem_take hx)
      refine gc_dr Ex.refl.app ?_ (q (bs.take 8) ys (fun x hx => hs x (hb x hx)) ?_ (fun n hn' => ?_) (by simp; omega))
      · have : ∀ (n : Nat) (L : List Dc), D.cleans n (L.map dD) := fun n L => by
          induction L with
          | nil => trivial
          | cons a L ih => simp only [List.map_cons, D.cleans]; exact ⟨clean_dD a, ih⟩
        simp only [D.clean]
        exact this _ _
      · rw [List.map_take]
        exact ((hp.map _).nodup_iff.mpr nd).sublist (List.take_sublist _ _)
      · obtain ⟨x, hx, rfl⟩ := List.mem_map.mp hn'
        exact hn.subset (List.mem_map_of_mem (hb x hx))
  have part4 : ∀ (N : List Str) (τ : Sd) (h' : Hd), SI r N τ h' → (N ++ [("far" : Str)]).Sublist pool → nxt ⟨wpCall gl F (d+3), gcX (DO.lst (xs.map D.int) :: r) ex⟩ gl (nthS 4 (cSignature ft fs)) (endZ (DO.lst (xs.map D.int) :: r) Q) τ h' := by
    rintro N τ h' ⟨S, ys, e, t2, t3, rfl, rfl, hs, hn⟩ hN
    have hl := SI.len hn
    have hl2 := hN.length_le
    have hl : S.length ≤ 9 := by simp [pool] at hl2; omega
    refine nxt_of ?_
    simp only [nthS, tlS, cSignature]
    simp
    refine take2_spec ht (by omega) fun m ys hm => ?_
    simp [natD]
    split
    · refine nxt_of ?_
      simp
      refine take2_spec ht (by omega) fun m ys hm => ?_
      simp [natD]
      refine nxt_of ?_
      simp
      refine ⟨by omega, by omega, ?_⟩
      refine take2_spec ht (by omega) fun m2 ys hm2 => ?_
      have hm2 : m2 < 2 := by omega
      simp [natD]
      have ea : ∃ as : List Str, (∀ a ∈ as, a ∈ kinds) ∧ as.length ≤ 2 ∧ atI [D.tup [D.str (Str.ofString "whole")], D.tup [D.str (Str.ofString "whole"), D.str (Str.ofString "whole")]] (m2 : Int) = some (.tup (as.map D.str)) := by
        have hh : m2 = 0 ∨ m2 = 1 := by omega
        rcases hh with rfl | rfl
        · exact ⟨["whole"], by simp [kinds], by simp, by simp⟩
        · exact ⟨["whole", "whole"], by simp [kinds], by simp, by simp⟩
      obtain ⟨as, a1, a2, ea⟩ := ea
      rw [ea]
      simp
      refine take2_spec ht (by omega) fun m3 ys hm3 => ?_
      simp [natD]
      refine ⟨by omega, by omega, nxt_of (fin _ _ ?_)⟩
      refine SI.weak (SI.mk' (x := ("far", as, "whole", some ((m : Int) - 2), some ((m : Int) - 2 + 1 + m3))) rfl hs hn (whole_ok (nm _ (by decide)) a1 a2 (by omega) (by unfold C28; omega))) hN
    · refine nxt_of (fin _ _ ⟨S, ys, e, t2, t3, rfl, rfl, hs, hn.trans ((List.sublist_append_left _ _).trans hN)⟩)
  have near : ∀ (N : List Str) (Z : Endd) (τ : Sd) (h' : Hd), SI r N τ h' → N.length ≤ 8 → (∀ τ h', SI r N τ h' → Z.nx τ h') → (∀ τ h', SI r (N ++ [("near" : Str)]) τ h' → Z.nx τ h') → nxt ⟨wpCall gl F (d+3), gcX (DO.lst (xs.map D.int) :: r) ex⟩ gl (nearC ft fs) Z τ h' := by
    rintro N Z τ h' ⟨S, ys, e, t2, t3, rfl, rfl, hs, hn⟩ hN h1 h2
    have hl := SI.len hn
    refine nxt_of ?_
    simp only [nearC, thenS, hdS, nthS, tlS, cSignature]
    simp
    refine take2_spec ht (by omega) fun m ys hm => ?_
    simp [natD]
    split
    · refine nxt_of ?_
      simp
      refine ⟨by omega, by omega, by omega, ?_⟩
      refine take2_spec ht (by omega) fun m3 ys hm3 => ?_
      simp only [natD]
      have hm3 : m3 < 3 := by omega
      have ea : ∃ (j : Nat) (as : List Str), (∀ a ∈ as, a ∈ kinds) ∧ as.length ≤ 2 ∧ (e ++ [DO.lst [D.str (Str.ofString "thing"), D.str (Str.ofString "thing")], DO.lst [D.str (Str.ofString "thing"), D.str (Str.ofString "whole")], DO.lst [D.str (Str.ofString "thing")]])[j]? = some (.lst (as.map D.str)) ∧
          atI [D.loc (List.length r + (List.length e + 1) + 1), D.loc (List.length r + (List.length e + 1 + 1) + 1), D.loc (List.length r + (List.length e + 2 + 1) + 1)] (m3 : Int) = some (.loc (r.length + (j + 1) + 1)) := by
        have hh : m3 = 0 ∨ m3 = 1 ∨ m3 = 2 := by omega
        rcases hh with rfl | rfl | rfl
        · exact ⟨e.length, ["thing", "thing"], by simp [kinds], by simp, by simp, by simp⟩
        · exact ⟨e.length + 1, ["thing", "whole"], by simp [kinds], by simp, by simp, by simp⟩
        · exact ⟨e.length + 2, ["thing"], by simp [kinds], by simp, by simp, by simp⟩
      obtain ⟨j, as, a1, a2, a3, a4⟩ := ea
      generalize (e ++ [DO.lst [D.str (Str.ofString "thing"), D.str (Str.ofString "thing")], DO.lst [D.str (Str.ofString "thing"), D.str (Str.ofString "whole")], DO.lst [D.str (Str.ofString "thing")]]) = e2 at a3 ⊢
      simp
      rw [a4]
      simp
      refine ⟨by omega, by omega, nxt_of ?_⟩
      have c2 : cutD [D.str (Str.ofString "near"), D.loc (List.length r + (j + 1) + 1), D.str (Str.ofString "truth"), D.non, D.non] (some 2) none = [D.str (Str.ofString "truth"), D.non, D.non] := cut_drop (n := 2)
      simp [atI_last, c2, a3]
      refine ⟨by omega, by omega, ?_⟩
      have i1 : ixN (S.length + 1) (-1) = some S.length := by
        unfold ixN
        rw [if_neg (by omega), if_pos (by omega)]
        congr 1
        omega
      simp [i1]
      exact h2 _ _ (SI.mk' (x := ("near", as, "truth", none, none)) rfl hs hn (truth_ok (nm _ (by decide)) a1 a2))
    · exact h1 _ _ ⟨S, ys, e, t2, t3, rfl, rfl, hs, hn⟩
  obtain ⟨S, ys, e, t2, t3, rfl, rfl, hs, hn⟩ := s
  have hl := SI.len hn
  have hl : S.length ≤ 4 := by simp [n1, n2] at hl; omega
  refine nxt_of ?_
  simp
  refine take2_spec ht (by omega) fun m ys hm => ?_
  simp [natD]
  split
  · refine nxt_of ?_
    simp
    refine take2_spec ht (by omega) fun m ys hm => ?_
    have hm : m < 2 := by omega
    simp [natD]
    refine ⟨by omega, ?_⟩
    rw [show (1 + (m : Int)).toNat = m + 1 by omega]
    refine for_range (fun i τ h' => SI r (n1 ++ n2 ++ n3.take i) τ h') ⟨S, ys, e, t2, t3, rfl, rfl, hs, by simpa using hn⟩ (fun _ => trivial) ?_ ?_
    · rintro i τ h' k hi ⟨S, ys, e, t2, t3, rfl, rfl, hs, hn⟩ hk
      have hl := SI.len hn
      have hl : S.length ≤ 6 := by simp [n1, n2, n3] at hl; omega
      obtain ⟨x, g1, g2, g3⟩ := two_get (a := ("a" : Str)) (b := ("b" : Str)) (i := i) (by omega)
      have hx : okName x = true := nm x (by have := List.mem_of_getElem? g1; simp at this; rcases this with rfl | rfl <;> simp [pool])
      simp
      rw [g2]
      simp
      refine ⟨by omega, by omega, by omega, hk _ _ ?_⟩
      rw [n3, g3, ← List.append_assoc]
      exact SI.mk' (x := (x, [], "thing", none, none)) rfl hs hn (thing_ok hx (by simp) (by simp))
    rintro τ h' s
    have s : SI r (n1 ++ n2 ++ n3) τ h' := s.weak ((List.Sublist.refl (n1 ++ n2)).append take_sub)
    obtain ⟨S, ys, e, t2, t3, rfl, rfl, hs, hn⟩ := s
    have hl := SI.len hn
    have hl : S.length ≤ 6 := by simp [n1, n2, n3] at hl; omega
    refine nxt_of ?_
    simp
    refine take2_spec ht (by omega) fun m ys hm => ?_
    simp [natD]
    split
    · refine nxt_of ?_
      simp
      refine ⟨by omega, by omega, by omega, ?_⟩
      have s := SI.mk' (r := r) (ys := ys) (e := e) (t2 := t2) (t3 := t3) (x := ("g", ["thing"], "thing", none, none)) rfl hs hn (thing_ok (nm _ (by decide)) (by simp [kinds]) (by simp))
      exact near _ _ _ _ s (by simp [n1, n2, n3]) (fun τ h' s => part4 _ _ _ s (by decide)) (fun τ h' s => part4 _ _ _ s (by decide))
    · exact near _ _ _ _ ⟨S, ys, e, t2, t3, rfl, rfl, hs, hn⟩ (by simp [n1, n2, n3]) (fun τ h' s => part4 _ _ _ s (by decide)) (fun τ h' s => part4 _ _ _ s (by decide))
  · exact part4 (n1 ++ n2) _ _ ⟨S, ys, e, t2, t3, rfl, rfl, hs, hn⟩ (by decide)
/-! a signature drawn -/
structure Sig (S : List Dc) : Prop where
  ok : ∀ x ∈ S, drawnOk x
  nd : (S.map (·.1)).Nodup
  len : S.length ≤ 8
theorem drawn_small {x : Dc} (h : drawnOk x) : smallD x := ⟨by have := name_len (okDc_parts h.1).1; omega, by have := h.2.1; omega⟩
theorem Sig.small {S : List Dc} (s : Sig S) : ∀ x ∈ S, smallD x := fun x hx => drawn_small (s.ok x hx)
theorem find_nodup : ∀ {S : List Dc} {x : Dc}, (S.map (·.1)).Nodup → x ∈ S → S.find? (fun y => decide (y.1 = x.1)) = some x
  | y :: S, x, hn, hx => by
    rw [List.map_cons, List.nodup_cons] at hn
    rcases List.mem_cons.mp hx with rfl | hx
    · rw [List.find?_cons_of_pos (by simp)]
    · have : y.1 ≠ x.1 := fun e => hn.1 (e ▸ List.mem_map_of_mem hx)
      rw [List.find?_cons_of_neg (by simpa using this)]
      exact find_nodup hn.2 hx
theorem Sig.take {S : List Dc} (s : Sig S) {n : Nat} : Sig (S.take n) := ⟨fun x hx => s.ok x (List.mem_of_mem_take hx), by rw [List.map_take]; exact s.nd.sublist (List.take_sublist _ _), by have := s.len; rw [List.length_take]; omega⟩
theorem Sig.perm {S T : List Dc} (s : Sig S) (p : T.Perm S) : Sig T := ⟨fun x hx => s.ok x (p.mem_iff.mp hx), (p.map _).nodup_iff.mpr s.nd, by rw [p.length_eq]; exact s.len⟩
theorem take_snoc {α : Type} {S : List α} {i : Nat} {x : α} (h : S[i]? = some x) : S.take i ++ [x] = S.take (i + 1) := by rw [List.take_succ, h]; rfl
end
end Py

namespace Py
open PySem PySem.Spec PyProof.Rows L2

/-! ### how long the text of data is -/
def tlen (x : D) : Nat := x.pd.shown.length
theorem shown_pds : ∀ xs : List D, (PyData.shownAll (D.pds xs)).map (·.length) = xs.map tlen
  | [] => rfl
  | x :: xs => by simp only [D.pds, PyData.shownAll, List.map_cons, shown_pds xs]; rfl
theorem pds_length : ∀ xs : List D, (D.pds xs).length = xs.length
  | [] => rfl
  | _ :: xs => by simp only [D.pds, List.length_cons, pds_length xs]
theorem sh_tup_le (xs : List D) : tlen (.tup xs) ≤ (xs.map tlen).sum + 2 * xs.length + 3 := by
  have h := tupleText_len_le (PyData.shownAll (D.pds xs))
  rw [shown_pds, PyData.shownAll_length, pds_length] at h
  exact h
theorem piled_eq (ts : List Str) : piled ts = (ts.map (·.length)).sum + 2 * ts.length := by
  induction ts with
  | nil => rfl
  | cons t ts ih => rw [piled_cons, ih, List.map_cons, List.sum_cons, List.length_cons]; omega
theorem sh_tup_ge (xs : List D) : (xs.map tlen).sum + 2 ≤ tlen (.tup xs) := by
  have h : piled (PyData.shownAll (D.pds xs)) ≤ (tupleText (PyData.shownAll (D.pds xs))).length := piled_le_tupleText _
  rw [piled_eq, shown_pds, PyData.shownAll_length, pds_length] at h
  show _ ≤ (tupleText (PyData.shownAll (D.pds xs))).length
  cases xs with
  | nil => decide
  | cons x xs =>
    simp only [List.length_cons] at h
    omega
/-- data with short texts, short tuples, less than n deep -/
def okT : Nat → D → Prop
  | 0, _ => False
  | n + 1, .tup xs => xs.length ≤ 1000 ∧ ∀ x ∈ xs, okT n x
  | _ + 1, .str x => x.length ≤ 1000
  | _ + 1, .non => True
  | _ + 1, .bl _ => True
  | _ + 1, .int _ => True
  | _ + 1, _ => False
theorem okT_mono : ∀ {n : Nat} {x : D}, okT n x → okT (n + 1) x
  | 0, _, h => h.elim
  | n + 1, .tup xs, h => ⟨h.1, fun x hx => okT_mono (h.2 x hx)⟩
  | _ + 1, .str _, h => h
  | _ + 1, .non, _ => trivial
  | _ + 1, .bl _, _ => trivial
  | _ + 1, .int _, _ => trivial
  | _ + 1, .loc _, h => h.elim
  | _ + 1, .tl _, h => h.elim
  | _ + 1, .td _ _ _, h => h.elim
  | _ + 1, .rl _, h => h.elim
theorem okT_le {n m : Nat} {x : D} (h : okT n x) (hm : n ≤ m) : okT m x := by
  induction hm with
  | refl => exact h
  | step _ ih => exact okT_mono ih
theorem okT_data : ∀ {n : Nat} {x : D}, okT n x → data n x
  | 0, _, h => h.elim
  | n + 1, .tup xs, h => ⟨by have := h.1; omega, fun x hx => okT_data (h.2 x hx)⟩
  | _ + 1, .str _, _ => trivial
  | _ + 1, .non, _ => trivial
  | _ + 1, .bl _, _ => trivial
  | _ + 1, .int _, _ => trivial
  | _ + 1, .loc _, h => h.elim
  | _ + 1, .tl _, h => h.elim
  | _ + 1, .td _ _ _, h => h.elim
  | _ + 1, .rl _, h => h.elim
theorem m_okT {n : Nat} {x : D} {h : Hd} {Q : PD} (o : okT n x) : mat x h Q = Q x h := by rw [data_mat (okT_data o)]
/-- data whose text can be told and that can be compared -/
def fine (n : Nat) (x : D) : Prop := okT n x ∧ x.pd.showable = true ∧ x.pd.canLay0 = true
theorem fine.le {n m : Nat} {x : D} (h : fine n x) (hm : n ≤ m) : fine m x := ⟨okT_le h.1 hm, h.2⟩
theorem pds_show : ∀ {xs : List D}, (∀ x ∈ xs, x.pd.showable = true) → PyData.showableAll (D.pds xs) = true
  | [], _ => rfl
  | x :: xs, h => by simp only [D.pds, PyData.showableAll, Bool.and_eq_true]; exact ⟨h x List.mem_cons_self, pds_show fun y hy => h y (List.mem_cons_of_mem _ hy)⟩
theorem pds_lay : ∀ {xs : List D}, (∀ x ∈ xs, x.pd.canLay0 = true) → PyData.canLayAll0 (D.pds xs) = true
  | [], _ => rfl
  | x :: xs, h => by simp only [D.pds, PyData.canLayAll0, Bool.and_eq_true]; exact ⟨h x List.mem_cons_self, pds_lay fun y hy => h y (List.mem_cons_of_mem _ hy)⟩
theorem fine_tup {n : Nat} {xs : List D} (hl : xs.length ≤ 1000) (h : ∀ x ∈ xs, fine n x) : fine (n + 1) (.tup xs) :=
  ⟨⟨hl, fun x hx => (h x hx).1⟩, by simp only [D.pd, PyData.showable]; exact pds_show fun x hx => (h x hx).2.1, by simp only [D.pd, PyData.canLay0]; exact pds_lay fun x hx => (h x hx).2.2⟩
theorem fine_str {n : Nat} {x : Str} (hl : x.length ≤ 1000) (h : (D.str x).pd.canLay0 = true) : fine (n + 1) (.str x) := ⟨hl, rfl, h⟩
theorem fine_int {n : Nat} {i : Int} (h : i.natAbs < 10000) : fine (n + 1) (.int i) := by
  refine ⟨trivial, ?_, rfl⟩
  show decide (i.natAbs.log2 < 1920) = true
  rw [decide_eq_true_eq]
  by_cases e : i.natAbs = 0
  · rw [e]; decide
  · exact (Nat.log2_lt e).mpr (Nat.lt_of_lt_of_le h (Nat.le_trans (by decide : 10000 ≤ 2 ^ 20) (Nat.pow_le_pow_right (by omega) (by omega))))
theorem sh_int {i : Int} (h : i.natAbs < 10000) : tlen (.int i) ≤ 13 := PyData.shown_int_le2 (by omega) (by omega)
theorem sh_str {x : Str} (h : (D.str x).pd.canLay0 = true) : tlen (.str x) ≤ 10 * x.length + 2 := by
  refine StrLaws.reprText_len x fun c hc => ?_
  have h : (x.cps.all fun c => decide (c < 0x110000)) = true := h
  rw [Array.all_eq_true_iff_forall_mem] at h
  have := h c (by simpa using hc)
  rw [decide_eq_true_eq] at this
  omega
theorem fine_repr {n : Nat} {xs : List D} {h : Hd} {Q : PD} (f : fine n (.tup xs)) (hn : n ≤ 60) (hs : tlen (.tup xs) ≤ 16000000) (q : Q (.str (D.tup xs).pd.shown) h) : px .repr [.tup xs] h Q := by
  rw [x_repr]
  have hz : sizeLine > 16000000 := by decide
  refine ⟨⟨?_, f.2.1, ?_, ?_⟩, q⟩
  · have := data_pure n (.tup xs) (okT_data f.1)
    simpa only [D.pure] using this
  · have := data_depth n (.tup xs) (okT_data f.1)
    omega
  · show tlen (.tup xs) ≤ _
    omega
theorem sum_le_mem {α : Type} (f : α → Nat) {a : α} {as : List α} (h : a ∈ as) : f a ≤ (as.map f).sum := by
  induction as with
  | nil => cases h
  | cons b as ih =>
    rw [List.map_cons, List.sum_cons]
    rcases List.mem_cons.mp h with rfl | h
    · omega
    · have := ih h; omega
end Py

namespace Py
open PySem PySem.Spec PyProof.Rows L2

/-! ### sorts of terms -/
def soOf (S : List Dc) (f : D → Option Str) : List D → Option Str
  | [.str nm, .tup as] => match S.find? (fun x => decide (x.1 = nm)) with
    | some d => if as.map f = d.2.1.map some then some d.2.2.1 else none
    | none => none
  | _ => none
def itOk (f : D → Option Str) : D → Bool
  | .tup [.int _, t] => decide (f t = some ("whole" : Str))
  | _ => false
def soSum (f : D → Option Str) : List D → Option Str
  | [.tup its, .int _] => if its.all (itOk f) = true then some ("whole" : Str) else none
  | _ => none
def soCmp (f : D → Option Str) (k : Str) : List D → Option Str
  | [a, b] => match f a, f b with
    | some s, some t => if s = t ∧ (k = "most" → s = "whole") then some ("truth" : Str) else none
    | _, _ => none
  | _ => none
def soIf (f : D → Option Str) : List D → Option Str
  | [c, a, b] => if f c = some ("truth" : Str) then (match f a, f b with
    | some s, some t => if s = t then some s else none
    | _, _ => none) else none
  | _ => none
def allT (f : D → Option Str) (as : List D) : Option Str := if as.all (fun a => decide (f a = some ("truth" : Str))) = true then some ("truth" : Str) else none
def soJoin (f : D → Option Str) (k : Str) (ts : List D) : Option Str :=
  if k = "all" ∨ k = "some" then (match ts with
    | [.tup as] => allT f as
    | _ => none)
  else if k = "not" then (match ts with
    | [a] => allT f [a]
    | _ => none)
  else match ts with
    | [] => some ("truth" : Str)
    | _ => none
def joinK : List Str := ["not", "all", "some", "yes", "no"]
def so (S : List Dc) : Nat → D → Option Str
  | 0, _ => none
  | n + 1, .tup (.str k :: ts) =>
    if k = "of" then soOf S (so S n) ts
    else if k = "sum" then soSum (so S n) ts
    else if k = "most" ∨ k = "same" then soCmp (so S n) k ts
    else if k = "if" then soIf (so S n) ts
    else if k ∈ joinK then soJoin (so S n) k ts
    else none
  | _ + 1, _ => none
/-- what stands straight in a term -/
def part2 : D → D
  | .tup [_, t] => t
  | _ => .non
def insL (k : Str) (ts : List D) : List D :=
  if k = "of" then (match ts with
    | [_, .tup as] => as
    | _ => [])
  else if k = "sum" then (match ts with
    | .tup its :: _ => its.map part2
    | _ => [])
  else if k = "all" ∨ k = "some" then (match ts with
    | .tup as :: _ => as
    | _ => [])
  else ts
def insD : D → List D
  | .tup (.str k :: ts) => insL k ts
  | _ => []
/-- the shape of a term's top -/
def shp (t : D) : Prop := ∃ k ts, t = .tup (.str k :: ts) ∧ (k = "of" → ∃ a as, ts = [a, .tup as]) ∧ (k = "sum" → ∃ its b, ts = [.tup its, b] ∧ ∀ i ∈ its, ∃ f u, i = .tup [f, u]) ∧ (k = "all" ∨ k = "some" → ∃ as, ts = [.tup as])
theorem so_shp {S : List Dc} {n : Nat} {t : D} {s : Str} (h : so S n t = some s) : shp t := by
  cases n with
  | zero => cases h
  | succ n =>
    have inv : ∃ k ts, t = .tup (.str k :: ts) := by
      unfold so at h
      split at h
      · rename_i e; cases e
      · exact ⟨_, _, rfl⟩
      · cases h
    obtain ⟨k, ts, rfl⟩ := inv
    refine ⟨k, ts, rfl, fun e => ?_, fun e => ?_, fun e => ?_⟩
    · subst e
      simp only [so, if_true] at h
      unfold soOf at h
      split at h
      · exact ⟨_, _, rfl⟩
      · cases h
    · subst e
      simp only [so, show (Str.ofString "sum" = Str.ofString "of") = False from eq_false (by decide), if_false, if_true] at h
      unfold soSum at h
      split at h
      · rename_i its j
        refine ⟨its, .int j, rfl, fun i hi => ?_⟩
        split at h
        · rename_i ha
          have := List.all_eq_true.mp ha i hi
          unfold itOk at this
          split at this
          · exact ⟨_, _, rfl⟩
          · cases this
        · cases h
      · cases h
    · have h0 : k ≠ "of" ∧ k ≠ "sum" ∧ ¬ (k = "most" ∨ k = "same") ∧ k ≠ "if" ∧ k ∈ joinK := by rcases e with rfl | rfl <;> decide
      simp only [so, h0.1, h0.2.1, h0.2.2.1, h0.2.2.2.1, h0.2.2.2.2, if_false, if_true, soJoin, e] at h
      split at h
      · exact ⟨_, rfl⟩
      · cases h
theorem list_map_some {α β : Type} {f : α → Option β} {as : List α} {bs : List β} (h : as.map f = bs.map some) {a : α} (ha : a ∈ as) : ∃ b ∈ bs, f a = some b := by
  have : f a ∈ bs.map some := h ▸ List.mem_map_of_mem ha
  obtain ⟨b, hb, e⟩ := List.mem_map.mp this
  exact ⟨b, hb, e.symm⟩
/-- what stands in a term of a sort has a sort -/
theorem so_ins {S : List Dc} {n : Nat} {t : D} {s : Str} (h : so S (n + 1) t = some s) : ∀ u ∈ insD t, ∃ r, so S n u = some r := by
  obtain ⟨k, ts, rfl, c1, c2, c3⟩ := so_shp h
  intro u hu
  simp only [so] at h
  have hu : u ∈ insL k ts := hu
  unfold insL at hu
  by_cases e1 : k = "of"
  · rw [if_pos e1] at h hu
    obtain ⟨a, as, rfl⟩ := c1 e1
    unfold soOf at h
    split at h
    · rename_i e
      cases e
      split at h
      · split at h
        · rename_i hm
          obtain ⟨b, _, e⟩ := list_map_some hm hu
          exact ⟨b, e⟩
        · cases h
      · cases h
    · cases h
  · rw [if_neg e1] at h hu
    by_cases e2 : k = "sum"
    · rw [if_pos e2] at h hu
      obtain ⟨its, b, rfl, hi⟩ := c2 e2
      obtain ⟨i, hi', rfl⟩ := List.mem_map.mp hu
      unfold soSum at h
      split at h
      · rename_i e
        cases e
        split at h
        · rename_i ha
          have := List.all_eq_true.mp ha i hi'
          unfold itOk at this
          split at this
          · exact ⟨_, of_decide_eq_true this⟩
          · cases this
        · cases h
      · cases h
    · rw [if_neg e2] at h hu
      by_cases e3 : k = "most" ∨ k = "same"
      · rw [if_pos e3] at h
        rw [if_neg (by rcases e3 with rfl | rfl <;> decide)] at hu
        unfold soCmp at h
        split at h
        · split at h
          · rename_i x1 x2
            simp only [List.mem_cons, List.not_mem_nil, or_false] at hu
            rcases hu with rfl | rfl
            · exact ⟨_, x1⟩
            · exact ⟨_, x2⟩
          · cases h
        · cases h
      · rw [if_neg e3] at h
        by_cases e4 : k = "if"
        · rw [if_pos e4] at h
          rw [if_neg (by subst e4; decide)] at hu
          unfold soIf at h
          split at h
          · split at h
            · rename_i x0
              split at h
              · rename_i x1 x2
                simp only [List.mem_cons, List.not_mem_nil, or_false] at hu
                rcases hu with rfl | rfl | rfl
                · exact ⟨_, x0⟩
                · exact ⟨_, x1⟩
                · exact ⟨_, x2⟩
              · cases h
            · cases h
          · cases h
        · rw [if_neg e4] at h
          have e5 : k ∈ joinK := by
            by_cases z : k ∈ joinK
            · exact z
            · rw [if_neg z] at h; cases h
          rw [if_pos e5] at h
          have al : ∀ as : List D, allT (so S n) as = some s → u ∈ as → ∃ r, so S n u = some r := fun as h hu => by
            unfold allT at h
            split at h
            · rename_i ha
              exact ⟨_, of_decide_eq_true (List.all_eq_true.mp ha u hu)⟩
            · cases h
          unfold soJoin at h
          by_cases e6 : k = "all" ∨ k = "some"
          · rw [if_pos e6] at h hu
            obtain ⟨as, rfl⟩ := c3 e6
            exact al as h hu
          · rw [if_neg e6] at h hu
            by_cases e7 : k = "not"
            · rw [if_pos e7] at h
              split at h
              · exact al _ h hu
              · cases h
            · rw [if_neg e7] at h
              split at h
              · cases hu
              · cases h
end Py

namespace Py
open PySem PySem.Spec PyProof.Rows L2

/-! ### terms drawn, that laws share -/
def cInside : CS :=
  (.seq (.ite (.prim .eq (.acons (.prim .idx (.acons (.var 0) (.acons (.cst (.int 0)) .anil))) (.acons (.cst (.str "of")) .anil)))
    (.seq (.ret (.prim .list (.acons (.prim .idx (.acons (.var 0) (.acons (.cst (.int 2)) .anil))) .anil)))
    .nil)
    .nil)
  (.seq (.ite (.prim .eq (.acons (.prim .idx (.acons (.var 0) (.acons (.cst (.int 0)) .anil))) (.acons (.cst (.str "sum")) .anil)))
    (.seq (.ret (.comp (.tp [1, 2]) (.prim .idx (.acons (.var 0) (.acons (.cst (.int 1)) .anil))) none .anil (.var 2)))
    .nil)
    .nil)
  (.seq (.ite (.prim .in_ (.acons (.prim .idx (.acons (.var 0) (.acons (.cst (.int 0)) .anil))) (.acons (.tup (.acons (.cst (.str "all")) (.acons (.cst (.str "some")) .anil))) .anil)))
    (.seq (.ret (.prim .list (.acons (.prim .idx (.acons (.var 0) (.acons (.cst (.int 1)) .anil))) .anil)))
    .nil)
    .nil)
  (.seq (.ret (.prim .list (.acons (.prim .slLo (.acons (.var 0) (.acons (.cst (.int 1)) .anil))) .anil)))
  .nil))))
def cParts (fi : Nat) : CS :=
  (.seq (.asg (.nm 1) (.lst .anil))
  (.seq (.asg (.nm 2) (.lst (.acons (.var 0) .anil)))
  (.seq (.forr (.nm 3) (.r1 (.cst (.int 100000)))
    (.seq (.ite (.prim .eq (.acons (.prim .len (.acons (.var 2) .anil)) (.acons (.cst (.int 0)) .anil)))
      (.seq .brk
      .nil)
      .nil)
    (.seq (.asg (.nm 4) (.prim .pop (.acons (.var 2) .anil)))
    (.seq (.expr (.meth .append (.var 1) (.acons (.var 4) .anil)))
    (.seq (.asg (.nm 2) (.prim .add (.acons (.var 2) (.acons (.prim .rev (.acons (.call fi (.acons (.var 4) .anil)) .anil)) .anil))))
    .nil)))))
  (.seq (.ret (.var 1))
  .nil))))
def cPick (ft : Nat) : CS :=
  (.seq (.ret (.prim .idx (.acons (.var 1) (.acons (.prim .idx (.acons (.lst (.acons (.call ft (.acons (.var 0) (.acons (.prim .len (.acons (.var 1) .anil)) .anil))) (.acons (.prim .sub (.acons (.prim .sub (.acons (.prim .len (.acons (.var 1) .anil)) (.acons (.cst (.int 1)) .anil))) (.acons (.call ft (.acons (.var 0) (.acons (.prim .min2 (.acons (.prim .len (.acons (.var 1) .anil)) (.acons (.cst (.int 4)) .anil))) .anil))) .anil))) .anil))) (.acons (.call ft (.acons (.var 0) (.acons (.cst (.int 2)) .anil))) .anil))) .anil))))
  .nil)
def cNew (ft fp : Nat) : CS :=
  (.seq (.asg (.nm 3) (.comp (.nm 4) (.lst (.acons (.cst (.str "truth")) (.acons (.cst (.str "whole")) (.acons (.cst (.str "thing")) .anil)))) (some ()) (.prim .gt (.acons (.prim .len (.acons (.prim .dget (.acons (.var 2) (.acons (.var 4) .anil))) .anil)) (.acons (.cst (.int 0)) .anil))) (.var 4)))
  (.seq (.asg (.nm 5) (.call ft (.acons (.var 0) (.acons (.cst (.int 10)) .anil))))
  (.seq (.asg (.nm 4) (.prim .idx (.acons (.var 3) (.acons (.call ft (.acons (.var 0) (.acons (.prim .len (.acons (.var 3) .anil)) .anil))) .anil))))
  (.seq (.ite (.prim .lt (.acons (.var 5) (.acons (.cst (.int 2)) .anil)))
    (.seq (.asg (.nm 6) (.comp (.nm 7) (.var 1) (some ()) (.and_ (.prim .gt (.acons (.prim .len (.acons (.prim .idx (.acons (.var 7) (.acons (.cst (.int 1)) .anil))) .anil)) (.acons (.cst (.int 0)) .anil))) (.prim .eq (.acons (.prim .len (.acons (.comp (.nm 8) (.prim .idx (.acons (.var 7) (.acons (.cst (.int 1)) .anil))) (some ()) (.prim .eq (.acons (.prim .len (.acons (.prim .dget (.acons (.var 2) (.acons (.var 8) .anil))) .anil)) (.acons (.cst (.int 0)) .anil))) (.var 8)) .anil)) (.acons (.cst (.int 0)) .anil)))) (.var 7)))
    (.seq (.ite (.prim .eq (.acons (.prim .len (.acons (.var 6) .anil)) (.acons (.cst (.int 0)) .anil)))
      (.seq (.ret (.tup (.acons (.cst (.str "truth")) (.acons (.tup (.acons (.cst (.str "yes")) .anil)) .anil))))
      .nil)
      .nil)
    (.seq (.asg (.tp [9, 10, 4, 11, 12]) (.prim .idx (.acons (.var 6) (.acons (.call ft (.acons (.var 0) (.acons (.prim .len (.acons (.var 6) .anil)) .anil))) .anil))))
    (.seq (.ret (.tup (.acons (.var 4) (.acons (.tup (.acons (.cst (.str "of")) (.acons (.var 9) (.acons (.prim .tuple (.acons (.comp (.nm 8) (.var 10) none .anil (.call fp (.acons (.var 0) (.acons (.prim .dget (.acons (.var 2) (.acons (.var 8) .anil))) .anil)))) .anil)) .anil)))) .anil))))
    .nil))))
    .nil)
  (.seq (.ite (.prim .eq (.acons (.var 5) (.acons (.cst (.int 2)) .anil)))
    (.seq (.asg (.nm 13) (.prim .tuple (.acons (.comp (.nm 14) (.r1 (.call ft (.acons (.var 0) (.acons (.cst (.int 4)) .anil)))) none .anil (.tup (.acons (.prim .sub (.acons (.call ft (.acons (.var 0) (.acons (.cst (.int 7)) .anil))) (.acons (.cst (.int 3)) .anil))) (.acons (.call fp (.acons (.var 0) (.acons (.prim .dget (.acons (.var 2) (.acons (.cst (.str "whole")) .anil))) .anil))) .anil)))) .anil)))
    (.seq (.ret (.tup (.acons (.cst (.str "whole")) (.acons (.tup (.acons (.cst (.str "sum")) (.acons (.var 13) (.acons (.prim .sub (.acons (.call ft (.acons (.var 0) (.acons (.cst (.int 9)) .anil))) (.acons (.cst (.int 4)) .anil))) .anil)))) .anil))))
    .nil))
    .nil)
  (.seq (.ite (.prim .eq (.acons (.var 5) (.acons (.cst (.int 3)) .anil)))
    (.seq (.ret (.tup (.acons (.cst (.str "truth")) (.acons (.tup (.acons (.cst (.str "most")) (.acons (.call fp (.acons (.var 0) (.acons (.prim .dget (.acons (.var 2) (.acons (.cst (.str "whole")) .anil))) .anil))) (.acons (.call fp (.acons (.var 0) (.acons (.prim .dget (.acons (.var 2) (.acons (.cst (.str "whole")) .anil))) .anil))) .anil)))) .anil))))
    .nil)
    .nil)
  (.seq (.ite (.prim .eq (.acons (.var 5) (.acons (.cst (.int 4)) .anil)))
    (.seq (.ret (.tup (.acons (.cst (.str "truth")) (.acons (.tup (.acons (.cst (.str "same")) (.acons (.call fp (.acons (.var 0) (.acons (.prim .dget (.acons (.var 2) (.acons (.var 4) .anil))) .anil))) (.acons (.call fp (.acons (.var 0) (.acons (.prim .dget (.acons (.var 2) (.acons (.var 4) .anil))) .anil))) .anil)))) .anil))))
    .nil)
    .nil)
  (.seq (.ite (.prim .eq (.acons (.var 5) (.acons (.cst (.int 5)) .anil)))
    (.seq (.ret (.tup (.acons (.cst (.str "truth")) (.acons (.tup (.acons (.cst (.str "not")) (.acons (.call fp (.acons (.var 0) (.acons (.prim .dget (.acons (.var 2) (.acons (.cst (.str "truth")) .anil))) .anil))) .anil))) .anil))))
    .nil)
    .nil)
  (.seq (.ite (.prim .lt (.acons (.var 5) (.acons (.cst (.int 8)) .anil)))
    (.seq (.ret (.tup (.acons (.cst (.str "truth")) (.acons (.tup (.acons (.prim .idx (.acons (.lst (.acons (.cst (.str "all")) (.acons (.cst (.str "some")) .anil))) (.acons (.prim .sub (.acons (.var 5) (.acons (.cst (.int 6)) .anil))) .anil))) (.acons (.prim .tuple (.acons (.comp (.nm 14) (.r1 (.call ft (.acons (.var 0) (.acons (.cst (.int 4)) .anil)))) none .anil (.call fp (.acons (.var 0) (.acons (.prim .dget (.acons (.var 2) (.acons (.cst (.str "truth")) .anil))) .anil)))) .anil)) .anil))) .anil))))
    .nil)
    .nil)
  (.seq (.ret (.tup (.acons (.var 4) (.acons (.tup (.acons (.cst (.str "if")) (.acons (.call fp (.acons (.var 0) (.acons (.prim .dget (.acons (.var 2) (.acons (.cst (.str "truth")) .anil))) .anil))) (.acons (.call fp (.acons (.var 0) (.acons (.prim .dget (.acons (.var 2) (.acons (.var 4) .anil))) .anil))) (.acons (.call fp (.acons (.var 0) (.acons (.prim .dget (.acons (.var 2) (.acons (.var 4) .anil))) .anil))) .anil))))) .anil))))
  .nil))))))))))
def cTerms (ft fn fi : Nat) : CS :=
  (.seq (.asg (.nm 5) (.disp [.inr "truth", .inr "whole", .inr "thing"] (.acons (.lst (.acons (.tup (.acons (.cst (.str "yes")) .anil)) (.acons (.tup (.acons (.cst (.str "no")) .anil)) .anil))) (.acons (.lst (.acons (.tup (.acons (.cst (.str "sum")) (.acons (.tup .anil) (.acons (.prim .sub (.acons (.call ft (.acons (.var 0) (.acons (.cst (.int 7)) .anil))) (.acons (.cst (.int 3)) .anil))) .anil)))) .anil)) (.acons (.lst .anil) .anil)))))
  (.seq (.asg (.nm 6) (.prim .dnew .anil))
  (.seq (.forr (.nm 7) (.prim .add (.acons (.prim .dget (.acons (.var 5) (.acons (.cst (.str "truth")) .anil))) (.acons (.prim .dget (.acons (.var 5) (.acons (.cst (.str "whole")) .anil))) .anil)))
    (.seq (.setIdx (.var 6) (.prim .repr (.acons (.var 7) .anil)) (.tup (.acons (.cst (.int 1)) (.acons (.cst (.int 1)) .anil))))
    .nil))
  (.seq (.forr (.tp [8, 9, 10, 11, 12]) (.var 1)
    (.seq (.ite (.prim .eq (.acons (.prim .len (.acons (.var 9) .anil)) (.acons (.cst (.int 0)) .anil)))
      (.seq (.expr (.meth .append (.prim .dget (.acons (.var 5) (.acons (.var 10) .anil))) (.acons (.tup (.acons (.cst (.str "of")) (.acons (.var 8) (.acons (.tup .anil) .anil)))) .anil)))
      (.seq (.setIdx (.var 6) (.prim .repr (.acons (.tup (.acons (.cst (.str "of")) (.acons (.var 8) (.acons (.tup .anil) .anil)))) .anil)) (.tup (.acons (.cst (.int 1)) (.acons (.cst (.int 1)) .anil))))
      .nil))
      .nil)
    .nil))
  (.seq (.forr (.nm 13) (.r1 (.var 2))
    (.seq (.asg (.tp [10, 7]) (.call fn (.acons (.var 0) (.acons (.var 1) (.acons (.var 5) .anil)))))
    (.seq (.asg (.nm 14) (.comp (.nm 15) (.call fi (.acons (.var 7) .anil)) none .anil (.prim .dget (.acons (.var 6) (.acons (.prim .repr (.acons (.var 15) .anil)) .anil)))))
    (.seq (.asg (.nm 16) (.prim .add (.acons (.cst (.int 1)) (.acons (.prim .sum (.acons (.comp (.nm 15) (.var 14) none .anil (.prim .idx (.acons (.var 15) (.acons (.cst (.int 0)) .anil)))) .anil)) .anil))))
    (.seq (.asg (.nm 17) (.prim .add (.acons (.cst (.int 1)) (.acons (.prim .maxL (.acons (.prim .add (.acons (.lst (.acons (.cst (.int 0)) .anil)) (.acons (.comp (.nm 15) (.var 14) none .anil (.prim .idx (.acons (.var 15) (.acons (.cst (.int 1)) .anil)))) .anil))) .anil)) .anil))))
    (.seq (.ite (.and_ (.prim .le (.acons (.var 16) (.acons (.var 3) .anil))) (.and_ (.prim .le (.acons (.var 17) (.acons (.var 4) .anil))) (.prim .dnotin (.acons (.prim .repr (.acons (.var 7) .anil)) (.acons (.var 6) .anil)))))
      (.seq (.setIdx (.var 6) (.prim .repr (.acons (.var 7) .anil)) (.tup (.acons (.var 16) (.acons (.var 17) .anil))))
      (.seq (.expr (.meth .append (.prim .dget (.acons (.var 5) (.acons (.var 10) .anil))) (.acons (.var 7) .anil)))
      .nil))
      .nil)
    .nil))))))
  (.seq (.ret (.var 5))
  .nil))))))
section
variable {ex : XD} {gl : List (Str × D)} {F : List FD} {f ft fp fn fi d : Nat} {x1 x2 x3 x4 x5 x6 x7 x8 y1 y2 y3 y4 y5 y6 z1 z2 z3 z4 z5 z6 w1 w2 w3 w4 w5 w6 : Str} {st st2 st3 st4 : Stmt} {h : Hd} {Q : PD}
theorem okT_sub {n : Nat} {xs : List D} (o : okT n (.tup xs)) : xs.length ≤ 1000 ∧ ∀ x ∈ xs, okT n x := by
  cases n with
  | zero => exact o.elim
  | succ n => exact ⟨o.1, fun x hx => okT_mono (o.2 x hx)⟩
theorem okT_ins {n : Nat} {t : D} (o : okT n t) (hs : shp t) : (insD t).length ≤ 1000 ∧ ∀ u ∈ insD t, okT n u := by
  obtain ⟨k, ts, rfl, c1, c2, c3⟩ := hs
  obtain ⟨l1, o1⟩ := okT_sub o
  show (insL k ts).length ≤ 1000 ∧ ∀ u ∈ insL k ts, okT n u
  unfold insL
  by_cases e1 : k = "of"
  · rw [if_pos e1]
    obtain ⟨a, as, rfl⟩ := c1 e1
    exact okT_sub (o1 (.tup as) (by simp))
  · rw [if_neg e1]
    by_cases e2 : k = "sum"
    · rw [if_pos e2]
      obtain ⟨its, b, rfl, hi⟩ := c2 e2
      obtain ⟨l2, o2⟩ := okT_sub (o1 (.tup its) (by simp))
      refine ⟨by simpa using l2, fun u hu => ?_⟩
      obtain ⟨i, hi', rfl⟩ := List.mem_map.mp hu
      obtain ⟨f, u, rfl⟩ := hi i hi'
      exact (okT_sub (o2 _ hi')).2 u (by simp)
    · rw [if_neg e2]
      by_cases e3 : k = "all" ∨ k = "some"
      · rw [if_pos e3]
        obtain ⟨as, rfl⟩ := c3 e3
        exact okT_sub (o1 (.tup as) (by simp))
      · rw [if_neg e3]
        exact ⟨by simp at l1; omega, fun u hu => o1 u (List.mem_cons_of_mem _ hu)⟩
theorem inside_spec {n : Nat} {t : D} (hf : F[f]? = some ⟨x1, [x2], [x3, x4, x5], st, cInside⟩) (o : okT n t) (hs : shp t) (q : Q (.tl (insD t)) h) : wpCall gl F (d+1) f [t] h Q ex := by
  have hz : sizeLine > 2000000 := by decide
  obtain ⟨k, ts, rfl, c1, c2, c3⟩ := hs
  have q : Q (.tl (insL k ts)) h := q
  unfold insL at q
  refine call_of hf rfl ?_
  simp [startD, cInside]
  by_cases e1 : k = "of"
  · rw [if_pos e1] at q ⊢
    obtain ⟨a, as, rfl⟩ := c1 e1
    refine nxt_of ?_
    simp
    exact gc_same q
  · rw [if_neg e1] at q ⊢
    refine nxt_of ?_
    simp
    by_cases e2 : k = "sum"
    · rw [if_pos e2] at q ⊢
      obtain ⟨its, b, rfl, hi⟩ := c2 e2
      obtain ⟨l1, o1⟩ := okT_sub o
      obtain ⟨l2, o2⟩ := okT_sub (o1 (.tup its) (by simp))
      refine nxt_of ?_
      simp
      have em : its = its.map id := by simp
      rw [em]
      refine comp_on id part2 (by omega) trivial (fun x hx k st => ?_) ?_
      · obtain ⟨f, u, rfl⟩ := hi x hx
        have ou := (okT_sub (o2 _ hx)).2 u (by simp)
        simp
        rw [m_okT ou]
        exact st
      · exact gc_same q
    · rw [if_neg e2] at q ⊢
      refine nxt_of ?_
      simp
      refine ⟨by omega, ?_⟩
      rw [x_inS (ns := ["all", "some"]) rfl]
      simp
      by_cases e3 : k = "all" ∨ k = "some"
      · rw [if_pos e3] at q ⊢
        obtain ⟨as, rfl⟩ := c3 e3
        refine nxt_of ?_
        simp
        exact gc_same q
      · rw [if_neg e3] at q ⊢
        refine nxt_of ?_
        have cd : cutD (D.str k :: ts) (some 1) none = ts := cut_drop (n := 1)
        simp [cd]
        exact gc_same q
/-! all parts, from the top -/
def pts : Nat → D → List D
  | 0, _ => []
  | n + 1, t => t :: ((insD t).map (pts n)).flatten
def hsh : Nat → D → Prop
  | 0, _ => False
  | n + 1, t => shp t ∧ ∀ u ∈ insD t, hsh n u
theorem hsh_mono : ∀ {n : Nat} {t : D}, hsh n t → hsh (n + 1) t ∧ pts (n + 1) t = pts n t
  | 0, _, h => h.elim
  | n + 1, t, h => ⟨⟨h.1, fun u hu => (hsh_mono (h.2 u hu)).1⟩, by
      show t :: ((insD t).map (pts (n + 1))).flatten = t :: ((insD t).map (pts n)).flatten
      congr 2
      exact List.map_congr_left fun u hu => (hsh_mono (h.2 u hu)).2⟩
theorem hsh_le {n m : Nat} {t : D} (h : hsh n t) (hm : n ≤ m) : hsh m t ∧ pts m t = pts n t := by
  induction hm with
  | refl => exact ⟨h, rfl⟩
  | step _ ih => exact ⟨(hsh_mono ih.1).1, (hsh_mono ih.1).2.trans ih.2⟩
theorem hsh_sub {n : Nat} {t : D} (h : hsh n t) : shp t ∧ (∀ u ∈ insD t, hsh n u) ∧ pts n t = t :: ((insD t).map (pts n)).flatten := by
  cases n with
  | zero => exact h.elim
  | succ n =>
    refine ⟨h.1, fun u hu => (hsh_mono (h.2 u hu)).1, ?_⟩
    show t :: ((insD t).map (pts n)).flatten = t :: ((insD t).map (pts (n + 1))).flatten
    congr 2
    exact (List.map_congr_left fun u hu => (hsh_mono (h.2 u hu)).2).symm
theorem so_hsh {S : List Dc} : ∀ {n : Nat} {t : D} {s : Str}, so S n t = some s → hsh n t
  | 0, _, _, h => by cases h
  | n + 1, t, s, h => ⟨so_shp h, fun u hu => let ⟨r, hr⟩ := so_ins h u hu; so_hsh hr⟩
@[simp] theorem look_past3 {h e : Hd} {o : DO} {j : Nat} : (h ++ o :: e)[h.length + (j + 1)]? = e[j]? := by simp [List.getElem?_append_right]
@[simp] theorem look_here2 {h e : Hd} {o : DO} : (h ++ o :: e)[h.length]? = some o := by simp
@[simp] theorem set_past3 {h e : Hd} {o p : DO} {j : Nat} : (h ++ o :: e).set (h.length + (j + 1)) p = h ++ o :: e.set j p := by
  rw [List.set_append_right _ _ (by omega)]
  simp
@[simp] theorem set_here2 {h e : Hd} {o p : DO} : (h ++ o :: e).set h.length p = h ++ p :: e := by
  rw [List.set_append_right _ _ (by omega)]
  simp
@[simp ↓] theorem x_revTl {xs : List D} {h : Hd} {Q : PD} : px .rev [.tl xs] h Q = Q (.tl xs.reverse) h := by (try simp only [px_eq]) <;> rfl
theorem pts_pos {n : Nat} {t : D} (h : hsh n t) : 1 ≤ (pts n t).length := by
  rw [(hsh_sub h).2.2]; simp
theorem flat_len {n : Nat} : ∀ {ls : List D}, (∀ u ∈ ls, hsh n u) → ls.length ≤ ((ls.map (pts n)).flatten).length
  | [], _ => Nat.le_refl _
  | u :: ls, h => by
    have a := flat_len fun v hv => h v (List.mem_cons_of_mem _ hv)
    have b := pts_pos (h u List.mem_cons_self)
    rw [List.map_cons, List.flatten_cons, List.length_append, List.length_cons]
    omega
theorem parts_spec {n m : Nat} {t : D} (hf : F[f]? = some ⟨x1, [x2], [x3, x4, x5, x6, x7], st, cParts fi⟩) (hi : F[fi]? = some ⟨y1, [y2], [y3, y4, y5], st2, cInside⟩) (o : okT m t) (hs : hsh n t) (hl : (pts n t).length < 100000) (q : Q (.tl (pts n t)) h) : wpCall gl F (d+2) f [t] h Q ex := by
  have hz : sizeLine > 2000000 := by decide
  refine call_of hf rfl ?_
  simp [startD, cParts]
  refine nxt_of ?_
  simp
  rw [m_okT o]
  simp
  refine ⟨by omega, nxt_of ?_⟩
  simp
  have cl : ∀ fs : List D, (∀ u ∈ fs, okT m u) → D.cleans h.length fs := fun fs => by
    induction fs with
    | nil => intro _; trivial
    | cons a fs ih => intro z; simp only [D.cleans]; exact ⟨data_clean m a (okT_data (z a List.mem_cons_self)), ih fun u hu => z u (List.mem_cons_of_mem _ hu)⟩
  have fin : ∀ (τ : Sd) (h' : Hd), (∃ (e : Hd) (t2 t3 t4 : Option D), τ = [some t, some (.loc h.length), t2, t3, t4] ∧ h' = h ++ .lst (pts n t) :: e ∧ ∀ u ∈ pts n t, okT m u) → nxt ⟨wpCall gl F (d+1), gcX h ex⟩ gl (.seq (.ret (.var 1)) .nil) (endZ h Q) τ h' := by
    rintro τ h' ⟨e, t2, t3, t4, rfl, rfl, oo⟩
    refine nxt_of ?_
    simp
    exact gc_app_tl (Nat.le_refl _) look_here2 (cl _ oo) q
  generalize hN : (100000 : Nat) = N
  refine for_range (fun i τ h' => ∃ (fs ls : List D) (e : Hd) (j : Nat) (t3 t4 : Option D), h' = h ++ .lst fs :: e ∧ e[j]? = some (.lst ls) ∧ τ = [some t, some (.loc h.length), some (.loc (h.length + (j + 1))), t3, t4] ∧ fs.length = i ∧ fs ++ (ls.reverse.map (pts n)).flatten = pts n t ∧ (∀ u ∈ ls, hsh n u ∧ okT m u) ∧ ∀ u ∈ fs, okT m u)
    ⟨[], [t], [.lst [t]], 0, _, _, rfl, rfl, rfl, rfl, by simp, fun u hu => by simp at hu; subst hu; exact ⟨hs, o⟩, fun u hu => by cases hu⟩ (fun _ => trivial) ?_ ?_
  · rintro i τ h' k hik ⟨fs, ls, e, j, t3, t4, rfl, hj, rfl, hfl, hfe, hls, hfs⟩ hk
    simp [hj]
    rcases List.eq_nil_or_concat ls with rfl | ⟨ls, u, hc⟩
    · simp
      refine nxt_of ?_
      simp
      simp at hfe
      subst hfe
      exact fin _ _ ⟨e, _, _, _, rfl, rfl, hfs⟩
    · rw [List.concat_eq_append] at hc
      subst hc
      have hu := hls u (by simp)
      obtain ⟨s1, s2, s3⟩ := hsh_sub hu.1
      obtain ⟨li, oi⟩ := okT_ins hu.2 s1
      have hll : ls.length ≤ 100000 := by
        have a := flat_len (n := n) (ls := (ls ++ [u]).reverse) fun v hv => (hls v (List.mem_reverse.mp hv)).1
        have b := congrArg List.length hfe
        rw [List.length_append] at b
        rw [List.length_reverse, List.length_append] at a
        omega
      simp
      refine nxt_of ?_
      have hjl : j < e.length := (List.getElem?_eq_some_iff.mp hj).1
      simp [hj]
      rw [m_okT hu.2]
      refine nxt_of ?_
      simp
      rw [m_okT hu.2]
      simp
      refine ⟨by omega, nxt_of ?_⟩
      simp
      rw [m_okT hu.2]
      refine inside_spec hi hu.2 s1 ?_
      simp
      rw [x_addL (a := ls) (b := (insD u).reverse) (mu_loc (by simp [hjl])) rfl]
      refine ⟨by simp; omega, ?_⟩
      simp
      refine hk _ _ ⟨fs ++ [u], ls ++ (insD u).reverse, e.set j (.lst ls) ++ [.lst (ls ++ (insD u).reverse)], e.length, some (.int (i : Int)), some u, by simp, by simp, by simp, by simp [hfl], ?_, fun v hv => ?_, fun v hv => ?_⟩
      · rw [← hfe]
        simp [s3]
      · rcases List.mem_append.mp hv with hv | hv
        · exact hls v (by simp [hv])
        · rw [List.mem_reverse] at hv
          exact ⟨s2 v hv, oi v hv⟩
      · rcases List.mem_append.mp hv with hv | hv
        · exact hfs v hv
        · simp at hv; subst hv; exact hu.2
  · rintro τ h' ⟨fs, ls, e, j, t3, t4, rfl, hj, rfl, hfl, hfe, hls, hfs⟩
    have := congrArg List.length hfe
    rw [List.length_append] at this
    omega
end
end Py

namespace Py
open PySem PySem.Spec PyProof.Rows L2
section
variable {ex : XD} {gl : List (Str × D)} {F : List FD} {f ft fp fn fi d : Nat} {x1 x2 x3 x4 x5 x6 x7 x8 y1 y2 y3 y4 y5 y6 z1 z2 z3 z4 z5 z6 w1 w2 w3 w4 w5 w6 v1 v2 v3 v4 v5 v6 v7 v8 v9 : Str} {st st2 st3 st4 : Stmt} {h : Hd} {Q : PD}
theorem pick_spec {L : List D} {xs : List Int} {r : Hd} {k m : Nat} (hf : F[f]? = some ⟨x1, [x2, x3], [x4, x5], st, cPick ft⟩) (ht : F[ft]? = some ⟨y1, [y2, y3], [y4, y5], st2, cTake⟩) (hk : r[k]? = some (.lst L)) (h0 : L ≠ []) (hl : L.length ≤ 1000) (o : ∀ x ∈ L, okT m x)
    (q : ∀ (x : D) (ys : List Int), x ∈ L → Q x (.lst (ys.map D.int) :: r)) : wpCall gl F (d+2) f [.loc 0, .loc (k+1)] (.lst (xs.map D.int) :: r) Q ex := by
  have hz : sizeLine > 2000000 := by decide
  have h0 : 0 < L.length := List.length_pos_iff.mpr h0
  refine call_of hf rfl ?_
  simp [startD, cPick, hk]
  refine take2_spec ht (by omega) fun i ys hi => ?_
  have hi : i < L.length := by omega
  simp [natD, hk]
  refine take2_spec ht (by split <;> omega) fun j ys hj => ?_
  have hj : j < L.length := by split at hj <;> omega
  simp [natD]
  refine ⟨by omega, ?_⟩
  refine take2_spec ht (by omega) fun c ys hc => ?_
  have hc : c = 0 ∨ c = 1 := by omega
  simp [natD]
  have fin : ∀ (z : Int), 0 ≤ z → z < L.length → ∃ x, atI L z = some x ∧ x ∈ L := fun z z0 z1 => by
    have : z.toNat < L.length := by omega
    refine ⟨L[z.toNat], ?_, List.getElem_mem _⟩
    unfold atI ixN
    rw [if_pos z0, if_pos z1]
    exact List.getElem?_eq_getElem this
  rcases hc with rfl | rfl
  · obtain ⟨x, e, hx⟩ := fin i (by omega) (by omega)
    simp [hk, e]
    exact gc_dr Ex.refl (data_clean m x (okT_data (o x hx))) (q x ys hx)
  · obtain ⟨x, e, hx⟩ := fin ((L.length : Int) - 1 - j) (by omega) (by omega)
    simp [hk, e]
    exact gc_dr Ex.refl (data_clean m x (okT_data (o x hx))) (q x ys hx)
/-- a pool of terms: by sorts, lists -/
def PoolAt (r : Hd) (p : Nat) (P : Str → List D) : Prop := ∃ ks vs, r[p]? = some (.dct false ks vs) ∧ ∀ s ∈ sorts, ∃ a, dGet ks vs (.inr s) = some (.loc (a + 1)) ∧ r[a]? = some (.lst (P s))
structure Good1 (S : List Dc) (n m : Nat) (P : Str → List D) : Prop where
  so : ∀ s ∈ sorts, ∀ t ∈ P s, so S n t = some s
  fin : ∀ s ∈ sorts, ∀ t ∈ P s, fine m t
  tr : P "truth" ≠ []
  wh : P "whole" ≠ []
  len : ∀ s ∈ sorts, (P s).length ≤ 900
theorem kinds_sorts {s : Str} (h : s ∈ kinds) : s ∈ sorts := by
  simp [kinds] at h
  rcases h with rfl | rfl <;> simp [sorts]
/-- a new term, as wanted -/
def NewT (S : List Dc) (n m : Nat) (P : Str → List D) (s : Str) (t : D) : Prop := s ∈ sorts ∧ so S (n + 1) t = some s ∧ fine (m + 3) t ∧ (∃ k ts, t = .tup (.str k :: ts)) ∧ (∀ u ∈ insD t, ∃ s ∈ sorts, u ∈ P s) ∧ tlen t ≤ ((insD t).map tlen).sum + 300
/-! what is made has its sort -/
theorem str_lay {x : Str} (h : x.cps.all (fun c => decide (c < 0x110000)) = true) : (D.str x).pd.canLay0 = true := h
theorem so_of {S : List Dc} {n : Nat} {nm : Str} {as : List D} {dc : Dc} (h1 : S.find? (fun x => decide (x.1 = nm)) = some dc) (h2 : as.map (so S n) = dc.2.1.map some) : so S (n + 1) (.tup [.str "of", .str nm, .tup as]) = some dc.2.2.1 := by
  simp only [so, if_true, soOf, h1, h2]
theorem so_sum {S : List Dc} {n : Nat} {its : List D} {k : Int} (h : its.all (itOk (so S n)) = true) : so S (n + 1) (.tup [.str "sum", .tup its, .int k]) = some ("whole" : Str) := by
  simp only [so]
  rw [if_neg (by decide), if_pos trivial]
  simp only [soSum, h, if_true]
theorem so_cmp {S : List Dc} {n : Nat} {k : Str} {a b : D} {s : Str} (hk : k = "most" ∨ k = "same") (ha : so S n a = some s) (hb : so S n b = some s) (hm : k = "most" → s = "whole") : so S (n + 1) (.tup [.str k, a, b]) = some ("truth" : Str) := by
  simp only [so]
  rw [if_neg (by rcases hk with rfl | rfl <;> decide), if_neg (by rcases hk with rfl | rfl <;> decide), if_pos hk]
  simp only [soCmp, ha, hb]
  rw [if_pos ⟨trivial, hm⟩]
theorem so_if {S : List Dc} {n : Nat} {c a b : D} {s : Str} (hc : so S n c = some ("truth" : Str)) (ha : so S n a = some s) (hb : so S n b = some s) : so S (n + 1) (.tup [.str "if", c, a, b]) = some s := by
  simp only [so]
  rw [if_neg (by decide), if_neg (by decide), if_neg (by decide), if_pos trivial]
  simp only [soIf, hc, ha, hb, if_true]
theorem so_row {S : List Dc} {n : Nat} {k : Str} {as : List D} (hk : k = "all" ∨ k = "some") (h : ∀ a ∈ as, so S n a = some ("truth" : Str)) : so S (n + 1) (.tup [.str k, .tup as]) = some ("truth" : Str) := by
  simp only [so]
  rw [if_neg (by rcases hk with rfl | rfl <;> decide), if_neg (by rcases hk with rfl | rfl <;> decide), if_neg (by rcases hk with rfl | rfl <;> decide), if_neg (by rcases hk with rfl | rfl <;> decide), if_pos (by rcases hk with rfl | rfl <;> decide)]
  simp only [soJoin]
  rw [if_pos hk]
  unfold allT
  rw [if_pos (List.all_eq_true.mpr fun a ha => decide_eq_true (h a ha))]
theorem so_not {S : List Dc} {n : Nat} {a : D} (h : so S n a = some ("truth" : Str)) : so S (n + 1) (.tup [.str "not", a]) = some ("truth" : Str) := by
  simp only [so]
  rw [if_neg (by decide), if_neg (by decide), if_neg (by decide), if_neg (by decide), if_pos (by decide)]
  simp only [soJoin]
  rw [if_neg (by decide), if_pos trivial]
  unfold allT
  rw [if_pos (by simp [h])]
theorem so_yes {S : List Dc} {n : Nat} {k : Str} (hk : k = "yes" ∨ k = "no") : so S (n + 1) (.tup [.str k]) = some ("truth" : Str) := by
  simp only [so]
  rw [if_neg (by rcases hk with rfl | rfl <;> decide), if_neg (by rcases hk with rfl | rfl <;> decide), if_neg (by rcases hk with rfl | rfl <;> decide), if_neg (by rcases hk with rfl | rfl <;> decide), if_pos (by rcases hk with rfl | rfl <;> decide)]
  simp only [soJoin]
  rw [if_neg (by rcases hk with rfl | rfl <;> decide), if_neg (by rcases hk with rfl | rfl <;> decide)]
/-- the words that terms begin with -/
def heads0 : List Str := ["of", "sum", "most", "same", "if", "not", "all", "some", "yes", "no"]
theorem heads_fine {k : Str} (h : k ∈ heads0) (n : Nat) : fine (n + 1) (.str k) ∧ tlen (.str k) ≤ 42 := by
  have a : ∀ k ∈ heads0, k.length ≤ 4 ∧ (D.str k).pd.canLay0 = true := by decide +kernel
  obtain ⟨a1, a2⟩ := a k h
  exact ⟨fine_str (by omega) a2, by have := sh_str a2; omega⟩
theorem name_fine {x : Str} (h : okName x = true) (n : Nat) : fine (n + 1) (.str x) ∧ tlen (.str x) ≤ 202 := by
  have l := name_len h
  exact ⟨fine_str (by omega) (lay_name h), by have := sh_str (lay_name h); omega⟩
section
variable {S : List Dc} {n m : Nat} {P : Str → List D}
theorem new_yes (g : Good1 S n m P) : NewT S n m P "truth" (.tup [.str "yes"]) := by
  refine ⟨by simp [sorts], so_yes (.inl rfl), fine_tup (by simp) fun x hx => ?_, ⟨_, _, rfl⟩, fun u hu => (by cases hu), ?_⟩
  · simp at hx; subst hx; exact (heads_fine (by simp [heads0]) _).1
  · have a := sh_tup_le [D.str (Str.ofString "yes")]
    have b := (heads_fine (k := "yes") (by simp [heads0]) 0).2
    simp at a
    omega
theorem new_of {dc : Dc} {as : List D} (sS : Sig S) (hd : dc ∈ S) (g : Good1 S n m P) (h2 : as.length = dc.2.1.length) (h : ∀ (i : Nat) (a : D) (s : Str), as[i]? = some a → dc.2.1[i]? = some s → a ∈ P s) : NewT S n m P dc.2.2.1 (.tup [.str "of", .str dc.1, .tup as]) := by
  have ok := sS.ok dc hd
  obtain ⟨o1, o2, o3, _⟩ := okDc_parts ok.1
  have mem : ∀ a ∈ as, ∃ s ∈ sorts, a ∈ P s := fun a ha => by
    obtain ⟨i, hi, e⟩ := List.mem_iff_getElem.mp ha
    have hi' : i < dc.2.1.length := by omega
    exact ⟨dc.2.1[i], kinds_sorts (o3 _ (List.getElem_mem _)), h i a _ (by rw [← e]; exact List.getElem?_eq_getElem hi) (List.getElem?_eq_getElem hi')⟩
  refine ⟨o2, so_of (find_nodup sS.nd hd) ?_, ?_, ⟨_, _, rfl⟩, fun u hu => mem u hu, ?_⟩
  · apply List.ext_getElem
    · simp [h2]
    · intro i h1' h2'
      have hi : i < as.length := by simpa using h1'
      have hi' : i < dc.2.1.length := by omega
      simp only [List.getElem_map]
      exact g.so _ (kinds_sorts (o3 _ (List.getElem_mem _))) _ (h i _ _ (List.getElem?_eq_getElem hi) (List.getElem?_eq_getElem hi'))
  · refine fine_tup (by simp) fun x hx => ?_
    simp only [List.mem_cons, List.not_mem_nil, or_false] at hx
    rcases hx with rfl | rfl | rfl
    · exact (heads_fine (by simp [heads0]) _).1
    · exact (name_fine o1 _).1
    · refine (fine_tup (n := m) (by have := ok.2.1; omega) fun x hx => ?_).le (by omega)
      obtain ⟨s, hs, hx'⟩ := mem x hx
      exact g.fin s hs x hx'
  · show tlen _ ≤ (as.map tlen).sum + 300
    have a := sh_tup_le [D.str (Str.ofString "of"), .str dc.1, .tup as]
    have b := (heads_fine (k := "of") (by simp [heads0]) 0).2
    have c := (name_fine o1 0).2
    have e := sh_tup_le as
    have := ok.2.1
    simp at a
    omega
theorem new_sum {its : List D} {k : Int} (g : Good1 S n m P) (hl : its.length ≤ 3) (hk : k.natAbs < 100) (h : ∀ i ∈ its, ∃ (f : Int) (u : D), i = .tup [.int f, u] ∧ f.natAbs < 100 ∧ u ∈ P "whole") : NewT S n m P "whole" (.tup [.str "sum", .tup its, .int k]) := by
  have mw : ("whole" : Str) ∈ sorts := by simp [sorts]
  have ei : insD (.tup [.str "sum", .tup its, .int k]) = its.map part2 := rfl
  refine ⟨mw, so_sum (List.all_eq_true.mpr fun i hi => ?_), ?_, ⟨_, _, rfl⟩, fun u hu => ?_, ?_⟩
  · obtain ⟨f, u, rfl, _, hu⟩ := h i hi
    exact decide_eq_true (g.so _ mw u hu)
  · refine fine_tup (by simp) fun x hx => ?_
    simp only [List.mem_cons, List.not_mem_nil, or_false] at hx
    rcases hx with rfl | rfl | rfl
    · exact (heads_fine (by simp [heads0]) _).1
    · refine fine_tup (by omega) fun i hi => ?_
      obtain ⟨f, u, rfl, hf, hu⟩ := h i hi
      refine fine_tup (by simp) fun x hx => ?_
      simp only [List.mem_cons, List.not_mem_nil, or_false] at hx
      rcases hx with rfl | rfl
      · have := g.fin _ mw _ hu
        cases m with
        | zero => exact this.1.elim
        | succ m => exact fine_int (by omega)
      · exact g.fin _ mw _ hu
    · exact fine_int (by omega)
  · rw [ei] at hu
    obtain ⟨i, hi, rfl⟩ := List.mem_map.mp hu
    obtain ⟨f, u, rfl, _, hu⟩ := h i hi
    exact ⟨_, mw, hu⟩
  · rw [ei]
    have a := sh_tup_le [D.str (Str.ofString "sum"), .tup its, .int k]
    have b := (heads_fine (k := "sum") (by simp [heads0]) 0).2
    have c := sh_int (i := k) (by omega)
    have e := sh_tup_le its
    have key : ∀ is : List D, (∀ i ∈ is, ∃ (f : Int) (u : D), i = .tup [.int f, u] ∧ f.natAbs < 100 ∧ u ∈ P "whole") → (is.map tlen).sum ≤ ((is.map part2).map tlen).sum + 20 * is.length := fun is => by
      induction is with
      | nil => intro _; simp
      | cons i is ih =>
        intro z
        have := ih fun j hj => z j (List.mem_cons_of_mem _ hj)
        obtain ⟨f, u, rfl, hf, _⟩ := z i List.mem_cons_self
        have w := sh_tup_le [D.int f, u]
        have v := sh_int (i := f) (by omega)
        simp only [List.map_cons, List.sum_cons, List.length_cons, part2, List.map_nil, List.sum_nil, List.length_nil] at w ⊢
        omega
    have := key its h
    simp only [List.map_cons, List.sum_cons, List.length_cons, List.map_nil, List.sum_nil, List.length_nil] at a
    omega
/-- words and terms in a row: (k, a, ..) -/
theorem new_flat {k s : Str} {as : List D} (g : Good1 S n m P) (hk : k ∈ heads0) (hn : k ≠ "of" ∧ k ≠ "sum" ∧ ¬ (k = "all" ∨ k = "some")) (hs : s ∈ sorts) (hso : so S (n + 1) (.tup (.str k :: as)) = some s) (hl : as.length ≤ 3) (h : ∀ a ∈ as, ∃ s ∈ sorts, a ∈ P s) : NewT S n m P s (.tup (.str k :: as)) := by
  have ei : insD (.tup (.str k :: as)) = as := by
    show insL k as = as
    unfold insL
    rw [if_neg hn.1, if_neg hn.2.1, if_neg hn.2.2]
  refine ⟨hs, hso, ?_, ⟨_, _, rfl⟩, fun u hu => h u (by rw [ei] at hu; exact hu), ?_⟩
  · refine fine_tup (by simp; omega) fun x hx => ?_
    rcases List.mem_cons.mp hx with rfl | hx
    · exact (heads_fine hk _).1
    · obtain ⟨s, hs, hx⟩ := h x hx
      exact (g.fin s hs x hx).le (by omega)
  · rw [ei]
    have a := sh_tup_le (D.str k :: as)
    have b := (heads_fine hk 0).2
    simp only [List.map_cons, List.sum_cons, List.length_cons] at a
    omega
theorem new_row {k : Str} {as : List D} (g : Good1 S n m P) (hk : k = "all" ∨ k = "some") (hl : as.length ≤ 3) (h : ∀ a ∈ as, a ∈ P "truth") : NewT S n m P "truth" (.tup [.str k, .tup as]) := by
  have mt : ("truth" : Str) ∈ sorts := by simp [sorts]
  have hh : k ∈ heads0 := by rcases hk with rfl | rfl <;> simp [heads0]
  have ei : insD (.tup [.str k, .tup as]) = as := by
    show insL k [.tup as] = as
    unfold insL
    rw [if_neg (by rcases hk with rfl | rfl <;> decide), if_neg (by rcases hk with rfl | rfl <;> decide), if_pos hk]
  refine ⟨mt, so_row hk fun a ha => g.so _ mt a (h a ha), ?_, ⟨_, _, rfl⟩, fun u hu => ⟨_, mt, h u (by rw [ei] at hu; exact hu)⟩, ?_⟩
  · refine fine_tup (by simp) fun x hx => ?_
    simp only [List.mem_cons, List.not_mem_nil, or_false] at hx
    rcases hx with rfl | rfl
    · exact (heads_fine hh _).1
    · refine (fine_tup (n := m) (by omega) fun x hx => g.fin _ mt x (h x hx)).le (by omega)
  · rw [ei]
    have a := sh_tup_le [D.str k, .tup as]
    have b := (heads_fine hh 0).2
    have e := sh_tup_le as
    simp only [List.map_cons, List.sum_cons, List.length_cons, List.map_nil, List.sum_nil, List.length_nil] at a
    omega
end
theorem new_spec {S : List Dc} {n m p : Nat} {P : Str → List D} {xs : List Int} {r : Hd} (hf : F[f]? = some ⟨x1, [x2, x3, x4], [x5, x6, x7, x8, v1, v2, v3, v4, v5, v6, v7, v8, v9, w1, w2], st, cNew ft fp⟩) (hp0 : F[fp]? = some ⟨z1, [z2, z3], [z4, z5], st3, cPick ft⟩) (ht : F[ft]? = some ⟨y1, [y2, y3], [y4, y5], st2, cTake⟩)
    (sS : Sig S) (hp : PoolAt r p P) (g : Good1 S n m P) (q : ∀ (s : Str) (t : D) (ys : List Int), NewT S n m P s t → Q (.tup [.str s, t]) (.lst (ys.map D.int) :: r)) : wpCall gl F (d+3) f [.loc 0, .tup (S.map dD), .loc (p+1)] (.lst (xs.map D.int) :: r) Q ex := by
  have hz : sizeLine > 2000000 := by decide
  obtain ⟨ks, vs, e1, e2⟩ := hp
  refine call_of hf rfl ?_
  simp [startD, cNew]
  refine ⟨by omega, ?_⟩
  have mt : ("truth" : Str) ∈ sorts := by simp [sorts]
  have mw : ("whole" : Str) ∈ sorts := by simp [sorts]
  obtain ⟨aT, dT, lT⟩ := e2 _ mt
  obtain ⟨aW, dW, lW⟩ := e2 _ mw
  have fin : ∀ (s : Str) (t : D) (ys : List Int) (e : Hd), NewT S n m P s t → Gc (.lst (xs.map D.int) :: r) (.tup [.str s, t]) (.lst (ys.map D.int) :: (r ++ e)) Q := fun s t ys e hN => by
    refine gc_dr Ex.refl.app ?_ (q s t ys hN)
    simp only [D.clean, D.cleans]
    exact ⟨trivial, data_clean _ t (okT_data hN.2.2.1.1), trivial⟩
  have pk : ∀ {s : Str} {a : Nat} {e : Hd} {K : PD} {ex' : XD} {ys : List Int}, s ∈ sorts → r[a]? = some (.lst (P s)) → P s ≠ [] → (∀ (x : D) (ys : List Int), x ∈ P s → K x (.lst (ys.map D.int) :: (r ++ e))) → wpCall gl F (d+2) fp [.loc 0, .loc (a+1)] (.lst (ys.map D.int) :: (r ++ e)) K ex' := fun hs ha h0 hK =>
    pick_spec hp0 ht (look_app ha) h0 (by have := g.len _ hs; omega) (fun x hx => (g.fin _ hs x hx).1) hK
  have mm : ∀ {s : Str} {x : D} {h : Hd} {K : PD}, s ∈ sorts → x ∈ P s → mat x h K = K x h := fun hs hx => m_okT (g.fin _ hs _ hx).1
  refine comp_onf D.str D.str (fun s => decide (0 < (P s).length)) (as := sorts) (by simp [sorts]; omega) trivial (fun s hs k st hk => ?_) ?_
  · obtain ⟨a, da, la⟩ := e2 s hs
    simp [e1]
    rw [da]
    simp [la]
    by_cases z : 0 < (P s).length
    · simpa [z] using hk
    · simpa [z] using hk
  have hSL : ∀ s ∈ sorts.filter (fun s => decide (0 < (P s).length)), s ∈ sorts ∧ P s ≠ [] := fun s hs => by
    obtain ⟨h1, h2⟩ := List.mem_filter.mp hs
    exact ⟨h1, List.length_pos_iff.mp (of_decide_eq_true h2)⟩
  have hS0 : 0 < (sorts.filter (fun s => decide (0 < (P s).length))).length := by
    refine List.length_pos_of_mem (a := ("truth" : Str)) (List.mem_filter.mpr ⟨mt, decide_eq_true (List.length_pos_iff.mpr g.tr)⟩)
  generalize sorts.filter (fun s => decide (0 < (P s).length)) = SL at hSL hS0
  simp
  refine nxt_of ?_
  simp
  refine take2_spec ht (by omega) fun kk ys hkk => ?_
  simp [natD]
  refine nxt_of ?_
  simp
  refine take2_spec ht (by omega) fun i ys hi => ?_
  have hi : i < SL.length := by omega
  simp [natD]
  obtain ⟨s, hs⟩ : ∃ s, SL[i]? = some s := ⟨_, List.getElem?_eq_getElem hi⟩
  obtain ⟨ms, ps⟩ := hSL s (List.mem_of_getElem? hs)
  rw [atI_map_nat (f := D.str) hs]
  simp
  obtain ⟨aS, dS, lS⟩ := e2 s ms
  have E1 : ∀ e : Hd, (r ++ e)[p]? = some (.dct false ks vs) := fun e => look_app e1
  refine nxt_of ?_
  simp
  split
  · -- of
    refine nxt_of ?_
    simp
    refine comp_onf dD dD (fun x => decide (0 < x.2.1.length) && decide ((x.2.1.filter fun s => decide ((P s).length = 0)).length = 0)) (by have := sS.len; omega) trivial (fun x hx k st hk => ?_) ?_
    · obtain ⟨_, _, o3, _⟩ := okDc_parts (sS.ok x hx).1
      have l3 := (sS.ok x hx).2.1
      simp
      by_cases z : 0 < x.2.1.length
      · rw [if_pos (by omega)]
        refine comp_onf D.str D.str (fun s => decide ((P s).length = 0)) (by omega) trivial (fun s hs k st hk => ?_) ?_
        · obtain ⟨a, da, la⟩ := e2 s (kinds_sorts (o3 s hs))
          have la : (r ++ [DO.lst (SL.map D.str)])[a]? = some (.lst (P s)) := look_app la
          simp [E1]
          rw [da]
          simp [la]
          by_cases z : (P s).length = 0
          · have z' := List.length_eq_zero_iff.mp z
            simpa [z'] using hk
          · have z' : P s ≠ [] := fun e => z (by rw [e]; rfl)
            simpa [z'] using hk
        · simp
          have wi : (x.2.1.filter fun s => decide ((P s).length = 0)).length = 0 ↔ ∀ a ∈ x.2.1, ¬ P a = [] := by simp
          by_cases w : (x.2.1.filter fun s => decide ((P s).length = 0)).length = 0
          · rw [if_pos (wi.mp w)]
            rw [decide_eq_true z, decide_eq_true w] at hk
            exact hk
          · rw [if_neg (fun v => w (wi.mpr v))]
            rw [decide_eq_true z, decide_eq_false w] at hk
            exact hk
      · rw [if_neg (by omega)]
        simpa [z] using hk
    have hT : ∀ x ∈ S.filter (fun x => decide (0 < x.2.1.length) && decide ((x.2.1.filter fun s => decide ((P s).length = 0)).length = 0)), x ∈ S ∧ ∀ a ∈ x.2.1, P a ≠ [] := fun x hx => by
      obtain ⟨h1, h2⟩ := List.mem_filter.mp hx
      refine ⟨h1, ?_⟩
      simp at h2
      exact h2.2
    generalize S.filter (fun x => decide (0 < x.2.1.length) && decide ((x.2.1.filter fun s => decide ((P s).length = 0)).length = 0)) = TH at hT
    simp
    refine nxt_of ?_
    simp
    by_cases z : TH = []
    · rw [if_pos z]
      refine nxt_of ?_
      simp
      refine ⟨by omega, by omega, fin _ _ _ _ (new_yes g)⟩
    · rw [if_neg z]
      have z0 : 0 < TH.length := List.length_pos_iff.mpr z
      refine nxt_of ?_
      simp
      refine take2_spec ht (by omega) fun j ys hj => ?_
      have hj : j < TH.length := by omega
      simp [natD]
      obtain ⟨dc, hdc⟩ : ∃ s, TH[j]? = some s := ⟨_, List.getElem?_eq_getElem hj⟩
      obtain ⟨md, pd⟩ := hT dc (List.mem_of_getElem? hdc)
      rw [atI_map_nat (f := dD) hdc]
      obtain ⟨_, _, o3, _⟩ := okDc_parts (sS.ok dc md).1
      have l3 := (sS.ok dc md).2.1
      simp only [dD]
      simp
      refine nxt_of ?_
      simp
      refine comp_inv (fun i acc h' => ∃ (ys : List Int), h' = .lst (ys.map D.int) :: (r ++ [.lst (SL.map D.str), .lst (TH.map dD)]) ∧ acc.length = i ∧ ∀ (j : Nat) (a : D) (s : Str), acc[j]? = some a → dc.2.1[j]? = some s → a ∈ P s) (by simp; omega) ⟨ys, by simp [dD], rfl, fun j a s h => by simp at h⟩ ?_ ?_
      · rintro i x acc h' k st hx ⟨ys, rfl, hl, ha⟩ hk _
        rw [List.getElem?_map, Option.map_eq_some_iff] at hx
        obtain ⟨s, hs, rfl⟩ := hx
        have hsm := List.mem_of_getElem? hs
        have mss := kinds_sorts (o3 s hsm)
        obtain ⟨a, da, la⟩ := e2 s mss
        refine ⟨trivial, ?_⟩
        simp [yesT, E1]
        rw [da]
        simp
        refine pk mss la (pd s hsm) fun u ys hu => ?_
        rw [mm mss hu]
        refine hk _ _ ⟨ys, rfl, by simp [hl], fun j b s' hb hs' => ?_⟩
        by_cases hji : j < acc.length
        · rw [List.getElem?_append_left hji] at hb
          exact ha j b s' hb hs'
        · have : j = acc.length := by
            have := (List.getElem?_eq_some_iff.mp hb).1
            simp at this
            omega
          subst this
          rw [List.getElem?_concat_length] at hb
          cases hb
          rw [hl, hs] at hs'
          cases hs'
          exact hu
      · rintro acc h' ⟨ys, rfl, hl, ha⟩
        refine ⟨trivial, ?_⟩
        simp at hl
        refine ⟨by omega, by omega, fin _ _ _ _ (new_of sS md g hl ha)⟩
  refine nxt_of ?_
  simp
  split
  · -- sum
    refine nxt_of ?_
    simp
    refine take2_spec ht (by omega) fun n0 ys hn0 => ?_
    have hn0 : n0 < 4 := by omega
    simp [natD]
    refine ⟨by omega, ?_⟩
    refine comp_inv (fun i acc h' => ∃ (ys : List Int), h' = .lst (ys.map D.int) :: (r ++ [.lst (SL.map D.str)]) ∧ acc.length ≤ i ∧ ∀ x ∈ acc, ∃ (f : Int) (u : D), x = .tup [.int f, u] ∧ f.natAbs < 100 ∧ u ∈ P "whole") (by simp; omega) ⟨ys, rfl, by simp, fun x hx => by cases hx⟩ ?_ ?_
    · rintro j x acc h' k st hx ⟨ys, rfl, hl, ha⟩ hk _
      obtain ⟨_, rfl⟩ := range_get hx
      refine ⟨trivial, ?_⟩
      simp [yesT]
      refine take2_spec ht (by omega) fun f ys hf => ?_
      simp [natD, E1]
      rw [dW]
      simp
      refine pk mw lW g.wh fun u ys hu => ?_
      rw [mm mw hu]
      refine ⟨by omega, hk _ _ ⟨ys, rfl, by simpa using hl, fun x hx => ?_⟩⟩
      rcases List.mem_append.mp hx with hx | hx
      · exact ha x hx
      · simp at hx
        subst hx
        exact ⟨_, _, rfl, by omega, hu⟩
    · rintro acc h' ⟨ys, rfl, hl, ha⟩
      refine ⟨trivial, ?_⟩
      simp at hl
      refine nxt_of ?_
      simp
      refine take2_spec ht (by omega) fun c ys hc => ?_
      simp [natD]
      refine ⟨by omega, by omega, fin _ _ _ _ ?_⟩
      exact new_sum g (by omega) (by omega) ha
  refine nxt_of ?_
  simp
  split
  · -- most
    refine nxt_of ?_
    simp [E1]
    rw [dW]
    simp
    refine pk mw lW g.wh fun x ys hx => ?_
    rw [mm mw hx]
    simp [E1]
    rw [dW]
    simp
    refine pk mw lW g.wh fun y ys hy => ?_
    rw [mm mw hy]
    refine ⟨by omega, by omega, fin _ _ _ _ ?_⟩
    exact new_flat g (by simp [heads0]) (by decide) mt (so_cmp (.inl rfl) (g.so _ mw x hx) (g.so _ mw y hy) (fun _ => rfl)) (by simp) (fun a ha => by simp at ha; rcases ha with rfl | rfl; exact ⟨_, mw, hx⟩; exact ⟨_, mw, hy⟩)
  refine nxt_of ?_
  simp
  split
  · -- same
    refine nxt_of ?_
    simp [E1]
    rw [dS]
    simp
    refine pk ms lS ps fun x ys hx => ?_
    rw [mm ms hx]
    simp [E1]
    rw [dS]
    simp
    refine pk ms lS ps fun y ys hy => ?_
    rw [mm ms hy]
    refine ⟨by omega, by omega, fin _ _ _ _ ?_⟩
    exact new_flat g (by simp [heads0]) (by decide) mt (so_cmp (.inr rfl) (g.so _ ms x hx) (g.so _ ms y hy) (fun z => absurd z (by decide))) (by simp) (fun a ha => by simp at ha; rcases ha with rfl | rfl; exact ⟨_, ms, hx⟩; exact ⟨_, ms, hy⟩)
  refine nxt_of ?_
  simp
  split
  · -- not
    refine nxt_of ?_
    simp [E1]
    rw [dT]
    simp
    refine pk mt lT g.tr fun x ys hx => ?_
    rw [mm mt hx]
    refine ⟨by omega, fin _ _ _ _ ?_⟩
    exact new_flat g (by simp [heads0]) (by decide) mt (so_not (g.so _ mt x hx)) (by simp) (fun a ha => by simp at ha; subst ha; exact ⟨_, mt, hx⟩)
  refine nxt_of ?_
  simp
  split
  · -- all, some
    rename_i k0 k1 k2 k3 k4 k5
    refine nxt_of ?_
    simp
    refine ⟨by omega, ?_⟩
    have eh : ∃ w : Str, (w = "all" ∨ w = "some") ∧ atI [D.str (Str.ofString "all"), D.str (Str.ofString "some")] ((kk : Int) - 6) = some (.str w) := by
      have hh : kk = 6 ∨ kk = 7 := by omega
      rcases hh with rfl | rfl
      · exact ⟨"all", .inl rfl, by simp⟩
      · exact ⟨"some", .inr rfl, by simp⟩
    obtain ⟨w, hw, eh⟩ := eh
    rw [eh]
    simp
    refine take2_spec ht (by omega) fun n0 ys hn0 => ?_
    have hn0 : n0 < 4 := by omega
    simp [natD]
    refine ⟨by omega, ?_⟩
    refine comp_inv (fun i acc h' => ∃ (ys : List Int), h' = .lst (ys.map D.int) :: (r ++ [.lst (SL.map D.str)]) ∧ acc.length ≤ i ∧ ∀ x ∈ acc, x ∈ P "truth") (by simp; omega) ⟨ys, rfl, by simp, fun x hx => by cases hx⟩ ?_ ?_
    · rintro j x acc h' k st hx ⟨ys, rfl, hl, ha⟩ hk _
      obtain ⟨_, rfl⟩ := range_get hx
      refine ⟨trivial, ?_⟩
      simp [yesT, E1]
      rw [dT]
      simp
      refine pk mt lT g.tr fun u ys hu => ?_
      rw [mm mt hu]
      refine hk _ _ ⟨ys, rfl, by simpa using hl, fun x hx => ?_⟩
      rcases List.mem_append.mp hx with hx | hx
      · exact ha x hx
      · simp at hx
        subst hx
        exact hu
    · rintro acc h' ⟨ys, rfl, hl, ha⟩
      refine ⟨trivial, ?_⟩
      simp at hl
      refine ⟨by omega, fin _ _ _ _ ?_⟩
      exact new_row g hw (by omega) ha
  · -- if
    refine nxt_of ?_
    simp [E1]
    rw [dT]
    simp
    refine pk mt lT g.tr fun x ys hx => ?_
    rw [mm mt hx]
    simp [E1]
    rw [dS]
    simp
    refine pk ms lS ps fun y ys hy => ?_
    rw [mm ms hy]
    simp [E1]
    rw [dS]
    simp
    refine pk ms lS ps fun z ys hz' => ?_
    rw [mm ms hz']
    refine ⟨by omega, by omega, fin _ _ _ _ ?_⟩
    exact new_flat g (by simp [heads0]) (by decide) ms (so_if (g.so _ mt x hx) (g.so _ ms y hy) (g.so _ ms z hz')) (by simp) (fun a ha => by simp at ha; rcases ha with rfl | rfl | rfl; exact ⟨_, mt, hx⟩; exact ⟨_, ms, hy⟩; exact ⟨_, ms, hz'⟩)
end
end Py

namespace Py
open PySem PySem.Spec PyProof.Rows L2
/-! ### a pool of terms -/
theorem so_mono {S : List Dc} : ∀ {n : Nat} {t : D} {s : Str}, so S n t = some s → so S (n + 1) t = some s
  | 0, _, _, h => by cases h
  | n + 1, t, s, h => by
    have ih : ∀ {u : D} {r : Str}, so S n u = some r → so S (n + 1) u = some r := fun h => so_mono h
    obtain ⟨k, ts, rfl, c1, c2, c3⟩ := so_shp h
    rw [so] at h ⊢
    by_cases e1 : k = "of"
    · rw [if_pos e1] at h ⊢
      obtain ⟨a, as, rfl⟩ := c1 e1
      unfold soOf at h
      split at h
      · rename_i e
        cases e
        split at h
        · rename_i dc hd
          split at h
          · rename_i hm
            cases h
            simp only [soOf, hd]
            rw [if_pos]
            rw [← hm]
            refine List.map_congr_left fun u hu => ?_
            obtain ⟨b, _, e⟩ := list_map_some hm hu
            rw [e]
            exact ih e
          · cases h
        · cases h
      · cases h
    rw [if_neg e1] at h ⊢
    by_cases e2 : k = "sum"
    · rw [if_pos e2] at h ⊢
      unfold soSum at h ⊢
      split at h
      · split at h
        · rename_i ha
          rw [if_pos (List.all_eq_true.mpr fun i hi => ?_)]
          · exact h
          · have := List.all_eq_true.mp ha i hi
            unfold itOk at this ⊢
            split at this
            · exact decide_eq_true (ih (of_decide_eq_true this))
            · cases this
        · cases h
      · cases h
    rw [if_neg e2] at h ⊢
    by_cases e3 : k = "most" ∨ k = "same"
    · rw [if_pos e3] at h ⊢
      unfold soCmp at h ⊢
      split at h
      · split at h
        · rename_i x1 x2
          simp only [ih x1, ih x2]
          exact h
        · cases h
      · cases h
    rw [if_neg e3] at h ⊢
    by_cases e4 : k = "if"
    · rw [if_pos e4] at h ⊢
      unfold soIf at h ⊢
      split at h
      · split at h
        · rename_i x0
          split at h
          · rename_i x1 x2
            simp only [ih x0, ih x1, ih x2, if_true]
            exact h
          · cases h
        · cases h
      · cases h
    rw [if_neg e4] at h ⊢
    by_cases e5 : k ∈ joinK
    · rw [if_pos e5] at h ⊢
      have al : ∀ {as : List D}, allT (so S n) as = some s → allT (so S (n + 1)) as = some s := fun {as} h => by
        unfold allT at h ⊢
        split at h
        · rename_i ha
          rw [if_pos (List.all_eq_true.mpr fun a hm => decide_eq_true (ih (of_decide_eq_true (List.all_eq_true.mp ha a hm))))]
          exact h
        · cases h
      unfold soJoin at h ⊢
      by_cases e6 : k = "all" ∨ k = "some"
      · rw [if_pos e6] at h ⊢
        split at h
        · exact al h
        · cases h
      · rw [if_neg e6] at h ⊢
        by_cases e7 : k = "not"
        · rw [if_pos e7] at h ⊢
          split at h
          · exact al h
          · cases h
        · rw [if_neg e7] at h ⊢
          exact h
    · rw [if_neg e5] at h
      cases h
theorem so_le {S : List Dc} {n m : Nat} {t : D} {s : Str} (h : so S n t = some s) (hm : n ≤ m) : so S m t = some s := by
  induction hm with
  | refl => exact h
  | step _ ih => exact so_mono ih
/-- sizes by texts: a dict -/
abbrev Ent := Str × Int × Int
def entK (E : List Ent) : List D := E.map fun e => D.str e.1
def entV (E : List Ent) : List D := E.map fun e => D.tup [.int e.2.1, .int e.2.2]
def entPut (E : List Ent) (k : Str) (a b : Int) : List Ent := if E.any (fun e => decide (e.1 = k)) = true then E.map (fun e => if e.1 = k then (e.1, a, b) else e) else E ++ [(k, a, b)]
theorem ent_has (E : List Ent) (k : Str) : dHas (entK E) (.inr k) = E.any fun e => decide (e.1 = k) := by
  unfold dHas entK
  rw [List.any_map]
  congr 1
  funext e
  simp [dkey]
theorem ent_put (E : List Ent) (k : Str) (a b : Int) : dPut (entK E) (entV E) (.inr k) (.tup [.int a, .int b]) = (entK (entPut E k a b), entV (entPut E k a b)) := by
  unfold dPut entPut
  rw [ent_has]
  split
  · congr 1
    · unfold entK
      rw [List.map_map]
      exact (List.map_congr_left fun e _ => by simp only [Function.comp]; split <;> rfl)
    · rename_i z0
      clear z0
      induction E with
      | nil => rfl
      | cons e E ih =>
        simp only [entK, entV, List.map_cons, List.zipWith_cons_cons, dkey, Option.some.injEq, Sum.inr.injEq] at ih ⊢
        rw [ih]
        by_cases z : e.1 = k
        · simp [z]
        · simp [z]
  · simp [entK, entV, keyD]
theorem ent_get {E : List Ent} {k : Str} {e : Ent} (h : E.find? (fun e => decide (e.1 = k)) = some e) : dGet (entK E) (entV E) (.inr k) = some (.tup [.int e.2.1, .int e.2.2]) := by
  induction E with
  | nil => cases h
  | cons x E ih =>
    simp only [entK, entV, List.map_cons, dGet, dkey, Option.some.injEq, Sum.inr.injEq]
    by_cases z : x.1 = k
    · rw [if_pos z]
      rw [List.find?_cons_of_pos (by simpa using z)] at h
      cases h
      rfl
    · rw [if_neg z]
      rw [List.find?_cons_of_neg (by simpa using z)] at h
      exact ih h
theorem ent_some {E : List Ent} {k : Str} : (dGet (entK E) (entV E) (.inr k)).isSome = E.any fun e => decide (e.1 = k) := by
  induction E with
  | nil => rfl
  | cons x E ih =>
    simp only [entK, entV, List.map_cons, dGet, dkey, Option.some.injEq, Sum.inr.injEq, List.any_cons] at ih ⊢
    by_cases z : x.1 = k
    · simp [z]
    · simp [z, ih]
theorem ent_find {E : List Ent} {k : Str} (h : ∃ e ∈ E, e.1 = k) : ∃ e ∈ E, E.find? (fun e => decide (e.1 = k)) = some e ∧ e.1 = k := by
  obtain ⟨e, he, rfl⟩ := h
  cases hf : E.find? (fun x => decide (x.1 = e.1)) with
  | none => exact absurd (List.find?_eq_none.mp hf e he) (by simp)
  | some x => exact ⟨x, List.mem_of_find?_eq_some hf, rfl, by have := List.find?_some hf; simpa using this⟩
/-- the entry of a term -/
def entOf (E : List Ent) (t : D) : Ent := (E.find? (fun e => decide (e.1 = t.pd.shown))).getD ("", 1, 1)
structure EntOk (most : Int) (E : List Ent) : Prop where
  ok : ∀ e ∈ E, (e.1.length : Int) ≤ 300 * e.2.1 ∧ 1 ≤ e.2.1 ∧ e.2.1 ≤ most
theorem EntOk.put {most : Int} {E : List Ent} (h : EntOk most E) {k : Str} {a b : Int} (h1 : (k.length : Int) ≤ 300 * a) (h2 : 1 ≤ a) (h3 : a ≤ most) : EntOk most (entPut E k a b) := by
  refine ⟨fun e he => ?_⟩
  unfold entPut at he
  split at he
  · obtain ⟨x, hx, rfl⟩ := List.mem_map.mp he
    split
    · rename_i z; simp only; rw [z]; exact ⟨h1, h2, h3⟩
    · exact h.ok x hx
  · rcases List.mem_append.mp he with he | he
    · exact h.ok e he
    · simp at he; subst he; exact ⟨h1, h2, h3⟩
theorem put_key {E : List Ent} {k : Str} {a b : Int} : (∃ e ∈ entPut E k a b, e.1 = k) ∧ ∀ z, (∃ e ∈ E, e.1 = z) → ∃ e ∈ entPut E k a b, e.1 = z := by
  unfold entPut
  split
  · rename_i h
    have all : ∀ z, (∃ e ∈ E, e.1 = z) → ∃ e ∈ E.map (fun e => if e.1 = k then (e.1, a, b) else e), e.1 = z := fun z ⟨e, he, hz⟩ => ⟨_, List.mem_map_of_mem he, by split <;> exact hz⟩
    obtain ⟨e, he, hk⟩ := List.any_eq_true.mp h
    exact ⟨all k ⟨e, he, of_decide_eq_true hk⟩, all⟩
  · exact ⟨⟨_, List.mem_append_right _ List.mem_cons_self, rfl⟩, fun z ⟨e, he, hz⟩ => ⟨e, List.mem_append_left _ he, hz⟩⟩
theorem put_len {E : List Ent} {k : Str} {a b : Int} : (entPut E k a b).length ≤ E.length + 1 := by
  unfold entPut
  split
  · simp
  · simp
end Py

namespace Py
open PySem PySem.Spec PyProof.Rows L2
def keysP : List D := [.str "truth", .str "whole", .str "thing"]
def valsP : List D := [.loc 1, .loc 2, .loc 3]
def idxP (s : Str) : Nat := if s = "truth" then 0 else if s = "whole" then 1 else 2
theorem getP {s : Str} (h : s ∈ sorts) : dGet keysP valsP (.inr s) = some (.loc (idxP s + 1)) := by
  have ne : ∀ {a b : Str}, a ≠ b → ¬ dkey (D.str a) = some (.inr b) := fun n z => n (by simpa [dkey] using z)
  have eqk : ∀ a : Str, dkey (D.str a) = some (.inr a) := fun _ => rfl
  simp [sorts] at h
  unfold keysP valsP
  simp only [dGet]
  rcases h with rfl | rfl | rfl
  · rw [if_pos (eqk _)]; rfl
  · rw [if_neg (ne (by decide)), if_pos (eqk _)]; rfl
  · rw [if_neg (ne (by decide)), if_neg (ne (by decide)), if_pos (eqk _)]; rfl
/-- the pool's places behind the draws -/
def rP (P : Str → List D) (E : List Ent) (e : Hd) : Hd := .lst (P "truth") :: .lst (P "whole") :: .lst (P "thing") :: .dct false keysP valsP :: .dct false (entK E) (entV E) :: e
section
variable {P : Str → List D} {E E' : List Ent} {e : Hd}
@[simp] theorem rP_pool : (rP P E e)[3]? = some (.dct false keysP valsP) := rfl
@[simp] theorem rP_ent : (rP P E e)[4]? = some (.dct false (entK E) (entV E)) := rfl
theorem rP_at {s : Str} (h : s ∈ sorts) : (rP P E e)[idxP s]? = some (.lst (P s)) := by
  simp [sorts] at h
  rcases h with rfl | rfl | rfl <;> rfl
@[simp] theorem rP_app {x : Hd} : rP P E e ++ x = rP P E (e ++ x) := rfl
@[simp] theorem rP_set : (rP P E e).set 4 (.dct false (entK E') (entV E')) = rP P E' e := rfl
theorem rP_len : (rP P E e).length = e.length + 5 := rfl
@[simp] theorem rP_past {j : Nat} : (rP P E e)[j + 5]? = e[j]? := rfl
@[simp] theorem rP_new {o : DO} : (rP P E (e ++ [o]))[(rP P E e).length]? = some o := by
  show (rP P E e ++ [o])[(rP P E e).length]? = some o
  simp [- rP_app]
theorem rP_pt : PoolAt (rP P E e) 3 P := ⟨_, _, rP_pool, fun s hs => ⟨idxP s, getP hs, rP_at hs⟩⟩
def addP (P : Str → List D) (s : Str) (t : D) : Str → List D := fun z => if z = s then P z ++ [t] else P z
theorem rP_add {s : Str} {t : D} (h : s ∈ sorts) : (rP P E e).set (idxP s) (.lst (P s ++ [t])) = rP (addP P s t) E e := by
  simp [sorts] at h
  rcases h with rfl | rfl | rfl <;> rfl
/-- how deep a term is, level by level -/
def dpn : Nat → D → Int
  | 0, _ => 0
  | n + 1, t => 1 + ((insD t).map (dpn n)).foldl max 0
theorem dpn_mono : ∀ {n : Nat} {t : D}, hsh n t → dpn (n + 1) t = dpn n t
  | 0, t, h => h.elim
  | n + 1, t, h => by
    obtain ⟨s1, s2⟩ := h
    show 1 + ((insD t).map (dpn (n + 1))).foldl max 0 = 1 + ((insD t).map (dpn n)).foldl max 0
    rw [List.map_congr_left fun u hu => dpn_mono (s2 u hu)]
theorem dpn_le {n m : Nat} {t : D} (h : hsh n t) (hm : n ≤ m) : dpn m t = dpn n t := by
  induction hm with
  | refl => rfl
  | step hm ih => rw [dpn_mono (hsh_le h hm).1, ih]
theorem dpn_sub {n : Nat} {t : D} (h : hsh n t) : dpn n t = 1 + ((insD t).map (dpn n)).foldl max 0 := by
  rw [← dpn_mono h]
  rfl
/-- the parts of a term, and its depth -/
def szN (t : D) : Int := ((pts 20 t).length : Int)
def dpN (t : D) : Int := dpn 20 t
theorem szN_sub {t : D} (h : hsh 20 t) : szN t = 1 + ((insD t).map szN).sum := by
  unfold szN
  obtain ⟨_, _, s3⟩ := hsh_sub h
  rw [s3, List.length_cons, List.length_flatten, List.map_map]
  generalize insD t = I
  have : ∀ I : List D, (((I.map (List.length ∘ pts 20)).sum : Nat) : Int) = (I.map fun t => ((pts 20 t).length : Int)).sum := by
    intro I
    induction I with
    | nil => rfl
    | cons a I ih => rw [List.map_cons, List.map_cons, List.sum_cons, List.sum_cons, ← ih]; rfl
  have e := this I
  show (((I.map (List.length ∘ pts 20)).sum + 1 : Nat) : Int) = 1 + (I.map fun t => ((pts 20 t).length : Int)).sum
  omega
theorem dpN_sub {t : D} (h : hsh 20 t) : dpN t = 1 + ((insD t).map dpN).foldl max 0 := dpn_sub h
/-- the pool's state at turn i -/
structure TI (S : List Dc) (most deepest : Int) (i : Nat) (P : Str → List D) (E : List Ent) : Prop where
  so : ∀ s ∈ sorts, ∀ t ∈ P s, so S (i + 1) t = some s
  fin : ∀ s ∈ sorts, ∀ t ∈ P s, fine (3 * i + 2) t
  tr : P "truth" ≠ []
  wh : P "whole" ≠ []
  len : ∀ s ∈ sorts, (P s).length ≤ 20 + i
  ent : EntOk most E
  key : ∀ s ∈ sorts, ∀ t ∈ P s, ∃ e ∈ E, e.1 = t.pd.shown
  el : E.length ≤ 60 + i
  val : ∀ s ∈ sorts, ∀ t ∈ P s, ∀ e ∈ E, e.1 = t.pd.shown → e.2.1 = szN t ∧ e.2.2 = dpN t
  deep : ∀ s ∈ sorts, ∀ t ∈ P s, szN t ≤ most ∧ dpN t ≤ deepest
theorem TI.good {S : List Dc} {most deepest : Int} {i : Nat} (h : TI S most deepest i P E) (hi : i ≤ 18) : Good1 S (i + 1) (3 * i + 2) P := ⟨h.so, h.fin, h.tr, h.wh, fun s hs => by have := h.len s hs; omega⟩
theorem TI.weak {S : List Dc} {most deepest : Int} {i : Nat} (h : TI S most deepest i P E) : TI S most deepest (i + 1) P E :=
  ⟨fun s hs t ht => so_mono (h.so s hs t ht), fun s hs t ht => (h.fin s hs t ht).le (by omega), h.tr, h.wh, fun s hs => by have := h.len s hs; omega, h.ent, h.key, by have := h.el; omega, h.val, h.deep⟩
theorem add_mem {s z : Str} {t u : D} (h : u ∈ addP P s t z) : u ∈ P z ∨ (z = s ∧ u = t) := by
  unfold addP at h
  split at h
  · rename_i e
    rcases List.mem_append.mp h with h | h
    · exact .inl h
    · exact .inr ⟨e, by simpa using h⟩
  · exact .inl h
theorem add_sub {s z : Str} {t u : D} (h : u ∈ P z) : u ∈ addP P s t z := by
  unfold addP
  split
  · exact List.mem_append_left _ h
  · exact h
theorem put_mem {E : List Ent} {k : Str} {a b : Int} {e : Ent} (h : e ∈ entPut E k a b) : e = (k, a, b) ∨ (e ∈ E ∧ e.1 ≠ k) := by
  unfold entPut at h
  split at h
  · obtain ⟨f, hf, rfl⟩ := List.mem_map.mp h
    by_cases z : f.1 = k
    · rw [if_pos z, z]
      exact .inl rfl
    · rw [if_neg z]
      exact .inr ⟨hf, z⟩
  · rename_i z
    rcases List.mem_append.mp h with h | h
    · refine .inr ⟨h, fun q => z ?_⟩
      exact List.any_eq_true.mpr ⟨e, h, by simpa using q⟩
    · exact .inl (by simpa using h)
theorem TI.add {S : List Dc} {most deepest : Int} {i j : Nat} {s : Str} {t : D} {a b : Int} (h : TI S most deepest i P E) (hj : j = i ∨ j = i + 1) (hl : (P s).length < 20 + j) (hE : E.length < 60 + j) (h1 : Py.so S (j + 1) t = some s) (h2 : fine (3 * j + 2) t) (h3 : (t.pd.shown.length : Int) ≤ 300 * a) (h4 : 1 ≤ a) (h5 : a ≤ most) (h6 : b ≤ deepest) (h7 : a = szN t ∧ b = dpN t) (h8 : ∀ z ∈ sorts, ∀ u ∈ P z, u.pd.shown = t.pd.shown → a = szN u ∧ b = dpN u) : TI S most deepest j (addP P s t) (entPut E t.pd.shown a b) := by
  refine ⟨fun z hz u hu => ?_, fun z hz u hu => ?_, ?_, ?_, fun z hz => ?_, h.ent.put h3 h4 h5, fun z hz u hu => ?_, by have := put_len (E := E) (k := t.pd.shown) (a := a) (b := b); omega, fun z hz u hu e he hk => ?_, fun z hz u hu => ?_⟩
  · rcases add_mem hu with hu | ⟨rfl, rfl⟩
    · exact so_le (h.so z hz u hu) (by omega)
    · exact h1
  · rcases add_mem hu with hu | ⟨rfl, rfl⟩
    · exact (h.fin z hz u hu).le (by omega)
    · exact h2
  · intro z
    have := List.eq_nil_iff_forall_not_mem.mp z
    obtain ⟨u, hu⟩ := List.exists_mem_of_ne_nil _ h.tr
    exact this u (add_sub hu)
  · intro z
    have := List.eq_nil_iff_forall_not_mem.mp z
    obtain ⟨u, hu⟩ := List.exists_mem_of_ne_nil _ h.wh
    exact this u (add_sub hu)
  · have := h.len z hz
    unfold addP
    split
    · rename_i e
      subst e
      rw [List.length_append]
      simp
      omega
    · omega
  · rcases add_mem hu with hu | ⟨rfl, rfl⟩
    · exact put_key.2 _ (h.key z hz u hu)
    · exact put_key.1
  · rcases add_mem hu with hu | ⟨rfl, rfl⟩
    · rcases put_mem he with rfl | ⟨he, _⟩
      · exact h8 z hz u hu hk.symm
      · exact h.val z hz u hu e he hk
    · rcases put_mem he with rfl | ⟨he, q⟩
      · exact h7
      · exact absurd hk q
  · rcases add_mem hu with hu | ⟨rfl, rfl⟩
    · exact h.deep z hz u hu
    · rw [← h7.1, ← h7.2]
      exact ⟨h5, h6⟩
end
end Py

namespace Py
open PySem PySem.Spec PyProof.Rows L2
section
variable {ex : XD} {gl : List (Str × D)} {F : List FD} {f ft fp fn fi d : Nat} {x1 x2 x3 x4 x5 x6 x7 x8 y1 y2 y3 y4 y5 y6 z1 z2 z3 z4 z5 z6 w1 w2 w3 w4 w5 w6 v1 v2 v3 v4 v5 v6 v7 v8 v9 u1 u2 u3 u4 u5 u6 u7 u8 u9 s1 s2 s3 s4 s5 s6 s7 s8 s9 t1 t2 t3 t4 t5 t6 t7 t8 t9 : Str} {st st2 st3 st4 st5 : Stmt} {h : Hd} {Q : PD}
def startP (k : Int) : Str → List D := fun s => if s = "truth" then [.tup [.str "yes"], .tup [.str "no"]] else if s = "whole" then [.tup [.str "sum", .tup [], .int k]] else []
theorem start_in {k : Int} {s : Str} {t : D} (hs : s ∈ sorts) (h : t ∈ startP k s) : (s = "truth" ∧ (t = .tup [.str "yes"] ∨ t = .tup [.str "no"])) ∨ (s = "whole" ∧ t = .tup [.str "sum", .tup [], .int k]) := by
  simp [sorts] at hs
  rcases hs with rfl | rfl | rfl
  · have h : t ∈ [D.tup [.str "yes"], .tup [.str "no"]] := h
    exact .inl ⟨rfl, by simpa using h⟩
  · have h : t ∈ [D.tup [.str "sum", .tup [], .int k]] := h
    exact .inr ⟨rfl, by simpa using h⟩
  · have h : t ∈ ([] : List D) := h
    cases h
theorem start_fine {k : Int} (hk : k.natAbs < 100) : ∀ t ∈ [D.tup [.str "yes"], .tup [.str "no"], .tup [.str "sum", .tup [], .int k]], fine 2 t ∧ tlen t ≤ 300 := by
  intro t ht
  simp only [List.mem_cons, List.not_mem_nil, or_false] at ht
  have f1 : fine 1 (.tup []) := ⟨⟨by simp, fun x hx => by cases hx⟩, rfl, rfl⟩
  rcases ht with rfl | rfl | rfl
  · have a := heads_fine (k := "yes") (by simp [heads0]) 0
    exact ⟨fine_tup (by simp) fun x hx => by simp at hx; subst hx; exact a.1, by have := sh_tup_le [D.str (Str.ofString "yes")]; simp at this; omega⟩
  · have a := heads_fine (k := "no") (by simp [heads0]) 0
    exact ⟨fine_tup (by simp) fun x hx => by simp at hx; subst hx; exact a.1, by have := sh_tup_le [D.str (Str.ofString "no")]; simp at this; omega⟩
  · have a := heads_fine (k := "sum") (by simp [heads0]) 0
    refine ⟨fine_tup (by simp) fun x hx => ?_, ?_⟩
    · simp only [List.mem_cons, List.not_mem_nil, or_false] at hx
      rcases hx with rfl | rfl | rfl
      · exact a.1
      · exact f1
      · exact fine_int (by omega)
    · have b := sh_tup_le [D.str (Str.ofString "sum"), .tup [], .int k]
      have c := sh_tup_le []
      have e := sh_int (i := k) (by omega)
      simp at b c
      omega
theorem lone_fine {x : Str} (h : okName x = true) : fine 2 (.tup [.str "of", .str x, .tup []]) ∧ tlen (.tup [.str "of", .str x, .tup []]) ≤ 300 := by
  have f1 : fine 1 (.tup []) := ⟨⟨by simp, fun x hx => by cases hx⟩, rfl, rfl⟩
  have a := heads_fine (k := "of") (by simp [heads0]) 0
  have a2 := name_fine h 0
  refine ⟨fine_tup (by simp) fun x hx => ?_, ?_⟩
  · simp only [List.mem_cons, List.not_mem_nil, or_false] at hx
    rcases hx with rfl | rfl | rfl
    · exact a.1
    · exact a2.1
    · exact f1
  · have b := sh_tup_le [D.str (Str.ofString "of"), .str x, .tup []]
    have c := sh_tup_le []
    simp at b c
    omega
theorem sum_bound (f : D → Int) : ∀ l : List D, (∀ u ∈ l, (tlen u : Int) ≤ 300 * f u) → (((l.map tlen).sum : Nat) : Int) ≤ 300 * (l.map f).sum
  | [], _ => by simp
  | u :: l, h => by
    have a := sum_bound f l fun v hv => h v (List.mem_cons_of_mem _ hv)
    have b := h u List.mem_cons_self
    simp only [List.map_cons, List.sum_cons, Int.natCast_add]
    omega
theorem sum_pos' (f : D → Int) : ∀ l : List D, (∀ u ∈ l, 0 ≤ f u) → 0 ≤ (l.map f).sum
  | [], _ => by simp
  | u :: l, h => by
    have a := sum_pos' f l fun v hv => h v (List.mem_cons_of_mem _ hv)
    have b := h u List.mem_cons_self
    simp only [List.map_cons, List.sum_cons]
    omega
theorem sum_cap : ∀ l : List D, (∀ u ∈ l, tlen u ≤ 15000) → (l.map tlen).sum ≤ 15000 * l.length
  | [], _ => by simp
  | u :: l, h => by
    have a := sum_cap l fun v hv => h v (List.mem_cons_of_mem _ hv)
    have b := h u List.mem_cons_self
    simp only [List.map_cons, List.sum_cons, List.length_cons]
    omega
theorem lone_val {t : D} (h : insD t = []) : szN t = 1 ∧ dpN t = 1 := by
  constructor
  · show ((t :: ((insD t).map (pts 19)).flatten).length : Int) = 1
    rw [h]
    rfl
  · show 1 + ((insD t).map (dpn 19)).foldl max 0 = 1
    rw [h]
    rfl
theorem put_ones {E : List Ent} {k : Str} (h : ∀ e ∈ E, e.2 = (1, 1)) : ∀ e ∈ entPut E k 1 1, e.2 = (1, 1) := fun e he => by
  rcases put_mem he with rfl | ⟨he, _⟩
  · rfl
  · exact h e he
theorem terms_spec {S : List Dc} {many : Nat} {most deepest : Int} {xs : List Int} (hf : F[f]? = some ⟨s1, [s2, s3, s4, s5, s6], [t1, t2, t3, t4, t5, t6, t7, t8, t9, u1, u2, u3, u4, u5, u6, u7, u8, u9], st4, cTerms ft fn fi⟩) (hn : F[fn]? = some ⟨x1, [x2, x3, x4], [x5, x6, x7, x8, v1, v2, v3, v4, v5, v6, v7, v8, v9, w1, w2], st, cNew ft fp⟩) (hp0 : F[fp]? = some ⟨z1, [z2, z3], [z4, z5], st3, cPick ft⟩) (ht : F[ft]? = some ⟨y1, [y2, y3], [y4, y5], st2, cTake⟩) (hi : F[fi]? = some ⟨w3, [w4], [w5, w6, y6], st5, cInside⟩)
    (sS : Sig S) (hm : many ≤ 18) (hm2 : 1 ≤ most) (hm3 : most ≤ 50) (hd1 : 1 ≤ deepest) (q : ∀ (P : Str → List D) (E : List Ent) (ys : List Int) (e : Hd), TI S most deepest many P E → Q (.loc 4) (.lst (ys.map D.int) :: rP P E e)) :
    wpCall gl F (d+4) f [.loc 0, .tup (S.map dD), .int many, .int most, .int deepest] [.lst (xs.map D.int)] Q ex := by
  have hz : sizeLine > 16000000 := by decide
  have mt : ("truth" : Str) ∈ sorts := by simp [sorts]
  have mw : ("whole" : Str) ∈ sorts := by simp [sorts]
  refine call_of hf rfl ?_
  simp [startD, cTerms]
  refine ⟨by omega, by omega, ?_⟩
  refine take2_spec ht (by omega) fun k ys hk => ?_
  simp [natD]
  refine ⟨by omega, by omega, nxt_of ?_⟩
  simp
  have hk2 : ((k : Int) - 3).natAbs < 100 := by omega
  have eH : [DO.lst (ys.map D.int), DO.lst [D.tup [D.str (Str.ofString "yes")], D.tup [D.str (Str.ofString "no")]], DO.lst [D.tup [D.str (Str.ofString "sum"), D.tup [], D.int ((k : Int) - 3)]], DO.lst [],
      DO.dct false [keyD (Sum.inr (Str.ofString "truth")), keyD (Sum.inr (Str.ofString "whole")), keyD (Sum.inr (Str.ofString "thing"))] [D.loc 1, D.loc 2, D.loc 3], DO.dct false [] []] = .lst (ys.map D.int) :: rP (startP ((k : Int) - 3)) [] [] := rfl
  rw [eH]
  generalize (k : Int) - 3 = k0 at hk2 ⊢
  have main : ∀ (P : Str → List D) (E : List Ent) (ys : List Int) (e : Hd) (τ : Sd), TI S most deepest 0 P E → (∃ t7 t8 t9 t10 t11 t12, τ = [some (.loc 0), some (.tup (S.map dD)), some (.int many), some (.int most), some (.int deepest), some (.loc 4), some (.loc 5), t7, t8, t9, t10, t11, t12, none, none, none, none, none]) →
      nxt ⟨wpCall gl F (d+3), gcX [DO.lst (xs.map D.int)] ex⟩ gl (nthS 4 (cTerms ft fn fi)) (endZ [DO.lst (xs.map D.int)] Q) τ (.lst (ys.map D.int) :: rP P E e) := by
    rintro P E ys e τ hT ⟨t7, t8, t9, t10, t11, t12, rfl⟩
    refine nxt_of ?_
    simp only [nthS, tlS, cTerms]
    simp
    refine ⟨by omega, ?_⟩
    refine for_range (fun i τ h' => ∃ (P : Str → List D) (E : List Ent) (ys : List Int) (e : Hd) (t7 t8 t9 t10 t11 t12 t13 t14 t15 t16 t17 : Option D), TI S most deepest i P E ∧ h' = .lst (ys.map D.int) :: rP P E e ∧ τ = [some (.loc 0), some (.tup (S.map dD)), some (.int many), some (.int most), some (.int deepest), some (.loc 4), some (.loc 5), t7, t8, t9, t10, t11, t12, t13, t14, t15, t16, t17])
      ⟨P, E, ys, e, _, _, _, _, _, _, _, _, _, _, _, hT, rfl, rfl⟩ (fun _ => trivial) ?_ ?_
    · rintro i τ h' k' hik ⟨P, E, ys, e, t7, t8, t9, t10, t11, t12, t13, t14, t15, t16, t17, hT, rfl, rfl⟩ hk
      simp
      refine new_spec (p := 3) hn hp0 ht sS rP_pt (hT.good (by omega)) fun s t ys hN => ?_
      obtain ⟨ms, nso, nf, ⟨kd, ts, rfl⟩, nin, nl⟩ := hN
      simp
      refine nxt_of ?_
      simp
      refine inside_spec hi nf.1 (so_shp nso) ?_
      have oi := okT_ins nf.1 (so_shp nso)
      have hsv : hsh 20 (.tup (.str kd :: ts)) := (hsh_le (so_hsh nso) (by omega)).1
      have hvz : ∀ u ∈ insD (.tup (.str kd :: ts)), (entOf E u).2.1 = szN u ∧ (entOf E u).2.2 = dpN u := fun u hu => by
        obtain ⟨s, hs, hx⟩ := nin u hu
        obtain ⟨en, hen, hf, hk⟩ := ent_find (hT.key s hs _ hx)
        have ee : entOf E u = en := by unfold entOf; rw [hf]; rfl
        rw [ee]
        exact hT.val s hs u hx en hen hk
      have hzs := szN_sub hsv
      have hzd := dpN_sub hsv
      rw [← List.map_congr_left fun u hu => (hvz u hu).1] at hzs
      rw [← List.map_congr_left fun u hu => (hvz u hu).2] at hzd
      have hu : ∀ u ∈ insD (.tup (.str kd :: ts)), ∃ us, u = .tup us ∧ fine (3 * i + 2) u ∧ (E.find? (fun e => decide (e.1 = u.pd.shown))) = some (entOf E u) ∧ (tlen u : Int) ≤ 300 * (entOf E u).2.1 ∧ 1 ≤ (entOf E u).2.1 ∧ (entOf E u).2.1 ≤ most := fun u hu => by
        obtain ⟨s, hs, hx⟩ := nin u hu
        obtain ⟨kd, ts, rfl, _⟩ := so_shp (hT.so s hs u hx)
        obtain ⟨en, hen, hf, hk⟩ := ent_find (hT.key s hs _ hx)
        have ee : entOf E (.tup (.str kd :: ts)) = en := by unfold entOf; rw [hf]; rfl
        obtain ⟨b1, b2, b3⟩ := hT.ent.ok en hen
        refine ⟨_, rfl, hT.fin s hs _ hx, by rw [ee]; exact hf, ?_, by rw [ee]; exact b2, by rw [ee]; exact b3⟩
        rw [ee]
        rw [hk] at b1
        exact b1
      clear hvz
      generalize hI : insD (.tup (.str kd :: ts)) = I at oi hu nl hzs hzd
      have em : I = I.map id := by simp
      simp
      rw [em]
      refine comp_on id (fun u => D.tup [.int (entOf E u).2.1, .int (entOf E u).2.2]) (by omega) trivial (fun u hu' k st => ?_) ?_
      · obtain ⟨us, rfl, f1, f2, f3, f4, f5⟩ := hu u hu'
        simp
        refine fine_repr f1 (by omega) (by omega) ?_
        simp
        rw [ent_get f2]
        exact st
      simp
      refine nxt_of ?_
      simp
      refine comp_on (fun u => D.tup [.int (entOf E u).2.1, .int (entOf E u).2.2]) (fun u => D.int (entOf E u).2.1) (by omega) (by simp) (fun u hu' k st => ?_) ?_
      · simp
        exact st
      rw [x_sum (ns := I.map fun u => (entOf E u).2.1) (by simp [lstOf])]
      simp
      refine nxt_of ?_
      simp
      refine ⟨by omega, ?_⟩
      refine comp_on (fun u => D.tup [.int (entOf E u).2.1, .int (entOf E u).2.2]) (fun u => D.int (entOf E u).2.2) (by omega) (by simp) (fun u hu' k st => ?_) ?_
      · simp
        exact st
      simp
      refine ⟨by omega, ?_⟩
      obtain ⟨mx, hmx⟩ : ∃ mx, ((0 : Int) :: I.map fun u => (entOf E u).2.2).max? = some mx := ⟨_, rfl⟩
      rw [x_maxL (ns := (0 : Int) :: I.map fun u => (entOf E u).2.2) (by simp [lstOf]) hmx]
      have hmx2 : (I.map fun u => (entOf E u).2.2).foldl max 0 = mx := by rw [List.max?_cons'] at hmx; exact Option.some.inj hmx
      rw [hmx2] at hzd
      simp
      refine nxt_of ?_
      simp
      have b1 := sum_bound (fun u => (entOf E u).2.1) I fun u h => by obtain ⟨_, _, _, _, z, _⟩ := hu u h; exact z
      have b2 := sum_pos' (fun u => (entOf E u).2.1) I fun u h => by obtain ⟨_, _, _, _, _, z, _⟩ := hu u h; omega
      have b3 := sum_cap I fun u h => by obtain ⟨_, _, _, _, z1, z2, z3⟩ := hu u h; omega
      generalize hsz : 1 + (I.map fun u => (entOf E u).2.1).sum = size at hzs ⊢
      have lt : tlen (.tup (.str kd :: ts)) ≤ 16000000 := by omega
      by_cases c1 : size ≤ most
      · rw [if_pos c1]
        by_cases c2 : 1 + mx ≤ deepest
        · rw [if_pos c2]
          refine fine_repr nf (by omega) lt ?_
          simp
          by_cases c3 : ¬ dGet (entK E) (entV E) (.inr (D.tup (.str kd :: ts)).pd.shown) = none
          · rw [if_neg c3]
            exact hk _ _ ⟨P, E, ys, _, _, _, _, _, _, _, _, _, _, _, _, hT.weak, rfl, rfl⟩
          · rw [if_pos (by simpa using c3)]
            refine nxt_of ?_
            simp
            refine ⟨by omega, ?_⟩
            refine fine_repr nf (by omega) lt ?_
            simp
            rw [ent_put]
            simp
            refine ⟨by unfold entK; rw [List.length_map]; have := hT.el; omega, nxt_of ?_⟩
            simp
            rw [getP ms]
            simp
            rw [rP_at ms]
            simp
            refine ⟨by have := hT.len s ms; omega, ?_⟩
            rw [rP_add ms]
            refine hk _ _ ⟨_, _, ys, _, _, _, _, _, _, _, _, _, _, _, _, hT.add (.inr rfl) (by have := hT.len s ms; omega) (by have := hT.el; omega) nso nf (a := size) (b := 1 + mx) ?_ (by omega) c1 c2 ⟨hzs.symm, hzd.symm⟩ (fun z hz u hu he => ?_), rfl, rfl⟩
            · show (tlen (.tup (.str kd :: ts)) : Int) ≤ _
              omega
            · exfalso
              obtain ⟨en, hen, hk⟩ := hT.key z hz u hu
              have c4 : (dGet (entK E) (entV E) (.inr (D.tup (.str kd :: ts)).pd.shown)).isSome = true := by
                rw [ent_some]
                exact List.any_eq_true.mpr ⟨en, hen, by rw [hk, he]; simp⟩
              rw [show dGet (entK E) (entV E) (.inr (D.tup (.str kd :: ts)).pd.shown) = none from by simpa using c3] at c4
              cases c4
        · rw [if_neg c2]
          exact hk _ _ ⟨P, E, ys, _, _, _, _, _, _, _, _, _, _, _, _, hT.weak, rfl, rfl⟩
      · rw [if_neg c1]
        exact hk _ _ ⟨P, E, ys, _, _, _, _, _, _, _, _, _, _, _, _, hT.weak, rfl, rfl⟩
    · rintro τ h' ⟨P, E, ys, e, t7, t8, t9, t10, t11, t12, t13, t14, t15, t16, t17, hT, rfl, rfl⟩
      refine nxt_of ?_
      simp
      exact gc_same (q P E ys e hT)
  refine nxt_of ?_
  show ws _ gl (.seq (hdS (nthS 2 (cTerms ft fn fi))) (.seq (hdS (nthS 3 (cTerms ft fn fi))) (nthS 4 (cTerms ft fn fi)))) _ _ _
  generalize nthS 4 (cTerms ft fn fi) = rest at main ⊢
  simp only [hdS, nthS, tlS, cTerms]
  simp
  rw [show dGet keysP valsP (.inr (Str.ofString "truth")) = some (.loc 1) from getP mt]
  simp
  rw [show dGet keysP valsP (.inr (Str.ofString "whole")) = some (.loc 2) from getP mw]
  simp
  rw [x_addL (a := startP k0 "truth") (b := startP k0 "whole") (mu_loc rfl) (mu_loc rfl)]
  have eL : startP k0 "truth" ++ startP k0 "whole" = [D.tup [.str "yes"], .tup [.str "no"], .tup [.str "sum", .tup [], .int k0]] := rfl
  have sf := start_fine hk2
  have hsz : ∀ t ∈ [D.tup [.str "yes"], .tup [.str "no"], .tup [.str "sum", .tup [], .int k0]], ∃ us, t = .tup us := fun t ht => by
    simp only [List.mem_cons, List.not_mem_nil, or_false] at ht
    rcases ht with rfl | rfl | rfl <;> exact ⟨_, rfl⟩
  refine ⟨by show 2 + 1 ≤ sizeLine; omega, ?_⟩
  rw [eL]
  generalize hL0 : [D.tup [.str "yes"], .tup [.str "no"], .tup [.str "sum", .tup [], .int k0]] = L0 at sf hsz
  have hl0 : L0.length = 3 := by rw [← hL0]; rfl
  simp
  refine for_inv (fun i τ h' => ∃ (E : List Ent) (t7 : Option D), h' = .lst (ys.map D.int) :: rP (startP k0) E [] ∧ EntOk most E ∧ E.length ≤ i ∧ (∀ t ∈ L0.take i, ∃ e ∈ E, e.1 = t.pd.shown) ∧ (∀ e ∈ E, e.2 = (1, 1)) ∧ τ = [some (.loc 0), some (.tup (S.map dD)), some (.int many), some (.int most), some (.int deepest), some (.loc 4), some (.loc 5), t7, none, none, none, none, none, none, none, none, none, none])
    ⟨[], none, rfl, ⟨fun e he => by cases he⟩, by simp, fun t ht => by simp at ht, fun e he => (by cases he), rfl⟩ ?_ ?_
  · rintro i x τ h' k' hx ⟨E, t7, rfl, h1, h2, h3, h4, rfl⟩ hk
    have hxm := List.mem_of_getElem? hx
    have hi3 := (List.getElem?_eq_some_iff.mp hx).1
    obtain ⟨us, rfl⟩ := hsz x hxm
    obtain ⟨f1, f2⟩ := sf _ hxm
    refine ⟨trivial, ?_⟩
    simp
    refine ⟨by omega, ?_⟩
    refine fine_repr f1 (by omega) (by omega) ?_
    simp
    rw [ent_put]
    simp
    refine ⟨by unfold entK; rw [List.length_map]; omega, hk _ _ ⟨_, _, rfl, h1.put (k := (D.tup us).pd.shown) (a := 1) (b := 1) ?_ (by omega) hm2, by have := put_len (E := E) (k := (D.tup us).pd.shown) (a := 1) (b := 1); omega, fun t ht => ?_, put_ones h4, rfl⟩⟩
    · show (tlen (.tup us) : Int) ≤ _
      omega
    · rw [List.take_succ, hx] at ht
      rcases List.mem_append.mp ht with ht | ht
      · exact put_key.2 _ (h3 t ht)
      · simp at ht
        subst ht
        exact put_key.1
  rintro τ h' ⟨E, t7, rfl, h1, h2, h3, h4, rfl⟩
  rw [List.take_length] at h3
  refine ⟨trivial, nxt_of ?_⟩
  have hins0 : ∀ s ∈ sorts, ∀ t ∈ startP k0 s, insD t = [] := fun s hs t ht => by
    rcases start_in hs ht with ⟨rfl, rfl | rfl⟩ | ⟨rfl, rfl⟩ <;> rfl
  have hT0 : TI S most deepest 0 (startP k0) E := by
    have ss : ∀ s ∈ sorts, ∀ t ∈ startP k0 s, t ∈ L0 ∧ so S 1 t = some s := fun s hs t ht => by
      rcases start_in hs ht with ⟨rfl, rfl | rfl⟩ | ⟨rfl, rfl⟩
      · exact ⟨by rw [← hL0]; simp, so_yes (.inl rfl)⟩
      · exact ⟨by rw [← hL0]; simp, so_yes (.inr rfl)⟩
      · exact ⟨by rw [← hL0]; simp, so_sum rfl⟩
    refine ⟨fun s hs t ht => (ss s hs t ht).2, fun s hs t ht => (sf t (ss s hs t ht).1).1, ?_, ?_, fun s hs => ?_, h1, fun s hs t ht => h3 t (ss s hs t ht).1, by omega, fun s hs t ht e he hk => ?_, fun s hs t ht => ?_⟩
    · intro z; cases z
    · intro z; cases z
    · simp [sorts] at hs
      rcases hs with rfl | rfl | rfl
      · show 2 ≤ _; omega
      · show 1 ≤ _; omega
      · show 0 ≤ _; omega
    · obtain ⟨v1, v2⟩ := lone_val (hins0 s hs t ht)
      rw [h4 e he, v1, v2]
      exact ⟨rfl, rfl⟩
    · obtain ⟨v1, v2⟩ := lone_val (hins0 s hs t ht)
      omega
  have hl1 : ∀ s ∈ sorts, (startP k0 s).length ≤ 2 := fun s hs => by
    simp [sorts] at hs
    rcases hs with rfl | rfl | rfl
    · show 2 ≤ _; omega
    · show 1 ≤ _; omega
    · show 0 ≤ _; omega
  simp
  refine for_inv (fun i τ h' => ∃ (P : Str → List D) (E : List Ent) (t7 t8 t9 t10 t11 t12 : Option D), h' = .lst (ys.map D.int) :: rP P E [] ∧ TI S most deepest 0 P E ∧ (∀ s ∈ sorts, (P s).length ≤ 2 + i) ∧ E.length ≤ 3 + i ∧ (∀ e ∈ E, e.2 = (1, 1)) ∧ (∀ s ∈ sorts, ∀ t ∈ P s, insD t = []) ∧ τ = [some (.loc 0), some (.tup (S.map dD)), some (.int many), some (.int most), some (.int deepest), some (.loc 4), some (.loc 5), t7, t8, t9, t10, t11, t12, none, none, none, none, none])
    ⟨startP k0, E, _, _, _, _, _, _, rfl, hT0, fun s hs => by have := hl1 s hs; omega, by omega, h4, hins0, rfl⟩ ?_ ?_
  · rintro i x τ h' k' hx ⟨P, E, t7, t8, t9, t10, t11, t12, rfl, hT, hl, hE, h5, h6, rfl⟩ hk
    rw [List.getElem?_map, Option.map_eq_some_iff] at hx
    obtain ⟨a, ha, rfl⟩ := hx
    have hi8 := (List.getElem?_eq_some_iff.mp ha).1
    have h8 := sS.len
    have haS := List.mem_of_getElem? ha
    obtain ⟨o1, o2, o3, _⟩ := okDc_parts (sS.ok a haS).1
    refine ⟨trivial, ?_⟩
    simp only [dD]
    simp
    by_cases z : a.2.1 = []
    · rw [if_pos z]
      obtain ⟨f1, f2⟩ := lone_fine o1
      refine nxt_of ?_
      simp
      rw [getP o2]
      simp
      rw [rP_at o2]
      simp
      refine ⟨by omega, by have := hl _ o2; omega, ?_⟩
      rw [rP_add o2]
      refine nxt_of ?_
      simp
      refine ⟨by omega, by omega, ?_⟩
      refine fine_repr f1 (by omega) (by omega) ?_
      simp
      rw [ent_put]
      simp
      refine ⟨by unfold entK; rw [List.length_map]; omega, hk _ _ ⟨_, _, _, _, _, _, _, _, rfl, hT.add (.inl rfl) (by have := hl _ o2; omega) (by omega) (so_of (find_nodup sS.nd haS) (by rw [z]; rfl)) f1 (a := 1) (b := 1) ?_ (by omega) hm2 hd1 ?_ (fun z hz u hu _ => ?_), fun s hs => ?_, by have := put_len (E := E) (k := (D.tup [.str "of", .str a.1, .tup []]).pd.shown) (a := 1) (b := 1); omega, put_ones h5, fun z hz u hu => ?_, rfl⟩⟩
      · show (tlen _ : Int) ≤ _
        omega
      · obtain ⟨v1, v2⟩ := lone_val (t := .tup [.str "of", .str a.1, .tup []]) rfl
        exact ⟨v1.symm, v2.symm⟩
      · obtain ⟨v1, v2⟩ := lone_val (h6 z hz u hu)
        exact ⟨v1.symm, v2.symm⟩
      · have := hl s hs
        unfold addP
        split
        · rw [List.length_append]; simp; omega
        · omega
      · rcases add_mem hu with hu | ⟨rfl, rfl⟩
        · exact h6 z hz u hu
        · rfl
    · rw [if_neg z]
      exact hk _ _ ⟨P, E, _, _, _, _, _, _, rfl, hT, fun s hs => by have := hl s hs; omega, by omega, h5, h6, rfl⟩
  · rintro τ h' ⟨P, E, t7, t8, t9, t10, t11, t12, rfl, hT, hl, hE, _, _, rfl⟩
    exact ⟨trivial, main P E ys [] _ hT ⟨_, _, _, _, _, _, rfl⟩⟩
end
end Py

namespace Py
open PySem PySem.Spec PyProof.Rows L2
/-! ### more of terms -/
theorem ins_len {t : D} (hs : shp t) : ((insD t).map tlen).sum + 1 ≤ tlen t := by
  obtain ⟨k, ts, rfl, c1, c2, c3⟩ := hs
  show ((insL k ts).map tlen).sum + 1 ≤ _
  have a := sh_tup_ge (D.str k :: ts)
  simp only [List.map_cons, List.sum_cons] at a
  unfold insL
  by_cases e1 : k = "of"
  · rw [if_pos e1]
    obtain ⟨x, as, rfl⟩ := c1 e1
    have b := sh_tup_ge as
    simp only [List.map_cons, List.sum_cons, List.map_nil, List.sum_nil] at a
    show (as.map tlen).sum + 1 ≤ _
    omega
  · rw [if_neg e1]
    by_cases e2 : k = "sum"
    · rw [if_pos e2]
      obtain ⟨its, x, rfl, hi⟩ := c2 e2
      have b := sh_tup_ge its
      have key : ∀ is : List D, (∀ i ∈ is, ∃ f u, i = .tup [f, u]) → ((is.map part2).map tlen).sum ≤ (is.map tlen).sum := fun is => by
        induction is with
        | nil => intro _; simp
        | cons i is ih =>
          intro z
          have := ih fun j hj => z j (List.mem_cons_of_mem _ hj)
          obtain ⟨f, u, rfl⟩ := z i List.mem_cons_self
          have w := sh_tup_ge [f, u]
          simp only [List.map_cons, List.sum_cons, List.map_nil, List.sum_nil, part2] at w ⊢
          omega
      have := key its hi
      simp only [List.map_cons, List.sum_cons, List.map_nil, List.sum_nil] at a
      show ((its.map part2).map tlen).sum + 1 ≤ _
      omega
    · rw [if_neg e2]
      by_cases e3 : k = "all" ∨ k = "some"
      · rw [if_pos e3]
        obtain ⟨as, rfl⟩ := c3 e3
        have b := sh_tup_ge as
        simp only [List.map_cons, List.sum_cons, List.map_nil, List.sum_nil] at a
        show (as.map tlen).sum + 1 ≤ _
        omega
      · rw [if_neg e3]
        omega
theorem pts_len : ∀ {n : Nat} {t : D}, hsh n t → (pts n t).length ≤ tlen t
  | 0, _, h => h.elim
  | n + 1, t, h => by
    have a := ins_len h.1
    have key : ∀ us : List D, (∀ u ∈ us, hsh n u) → ((us.map (pts n)).flatten).length ≤ (us.map tlen).sum := fun us => by
      induction us with
      | nil => intro _; simp
      | cons u us ih =>
        intro z
        have b := ih fun v hv => z v (List.mem_cons_of_mem _ hv)
        have c := pts_len (z u List.mem_cons_self)
        rw [List.map_cons, List.flatten_cons, List.length_append, List.map_cons, List.sum_cons]
        omega
    have := key _ h.2
    show (t :: _).length ≤ _
    rw [List.length_cons]
    omega
theorem pts_mem : ∀ {n m : Nat} {t : D}, hsh n t → okT m t → ∀ p ∈ pts n t, shp p ∧ okT m p
  | 0, _, _, h, _ => h.elim
  | n + 1, m, t, h, o => fun p hp => by
    rcases List.mem_cons.mp hp with rfl | hp
    · exact ⟨h.1, o⟩
    · obtain ⟨l, hl, hp⟩ := List.mem_flatten.mp hp
      obtain ⟨u, hu, rfl⟩ := List.mem_map.mp hl
      exact pts_mem (h.2 u hu) ((okT_ins o h.1).2 u hu) p hp
/-- the word that a term begins with -/
def headS : D → Str
  | .tup (.str k :: _) => k
  | _ => ""
theorem shp_head {t : D} (h : shp t) : ∃ ts, t = .tup (.str (headS t) :: ts) := by
  obtain ⟨k, ts, rfl, _⟩ := h
  exact ⟨ts, rfl⟩
theorem so_sorts {S : List Dc} (sS : Sig S) : ∀ {n : Nat} {t : D} {s : Str}, so S n t = some s → s ∈ sorts
  | 0, _, _, h => by cases h
  | n + 1, t, s, h => by
    have tr : ("truth" : Str) ∈ sorts := by simp [sorts]
    have wh : ("whole" : Str) ∈ sorts := by simp [sorts]
    obtain ⟨k, ts, rfl, c1, c2, c3⟩ := so_shp h
    rw [so] at h
    by_cases e1 : k = "of"
    · rw [if_pos e1] at h
      unfold soOf at h
      split at h
      · split at h
        · rename_i hd
          split at h
          · cases h
            exact (okDc_parts (sS.ok _ (List.mem_of_find?_eq_some hd)).1).2.1
          · cases h
        · cases h
      · cases h
    rw [if_neg e1] at h
    by_cases e2 : k = "sum"
    · rw [if_pos e2] at h
      unfold soSum at h
      split at h
      · split at h
        · cases h; exact wh
        · cases h
      · cases h
    rw [if_neg e2] at h
    by_cases e3 : k = "most" ∨ k = "same"
    · rw [if_pos e3] at h
      unfold soCmp at h
      split at h
      · split at h
        · split at h
          · cases h; exact tr
          · cases h
        · cases h
      · cases h
    rw [if_neg e3] at h
    by_cases e4 : k = "if"
    · rw [if_pos e4] at h
      unfold soIf at h
      split at h
      · split at h
        · split at h
          · rename_i x1 x2
            split at h
            · cases h; exact so_sorts sS x1
            · cases h
          · cases h
        · cases h
      · cases h
    rw [if_neg e4] at h
    split at h
    · have al : ∀ {as : List D}, allT (so S n) as = some s → s ∈ sorts := fun {as} h => by
        unfold allT at h
        split at h
        · cases h; exact tr
        · cases h
      unfold soJoin at h
      split at h
      · split at h
        · exact al h
        · cases h
      · split at h
        · split at h
          · exact al h
          · cases h
        · split at h
          · cases h; exact tr
          · cases h
    · cases h
theorem so_none {S : List Dc} {n : Nat} {t : D} (h : ¬ ∃ k ts, t = .tup (.str k :: ts)) : so S (n + 1) t = none := by
  unfold so
  split
  · omega
  · exact absurd ⟨_, _, rfl⟩ h
  · rfl
/-- the same sorts by a signature in another order -/
theorem so_perm {S T : List Dc} (e : ∀ nm : Str, T.find? (fun x => decide (x.1 = nm)) = S.find? (fun x => decide (x.1 = nm))) : ∀ (n : Nat) (t : D), so T n t = so S n t
  | 0, _ => rfl
  | n + 1, t => by
    have ih : so T n = so S n := funext fun u => so_perm e n u
    have oo : ∀ ts, soOf T (so S n) ts = soOf S (so S n) ts := fun ts => by
      unfold soOf
      split
      · rw [e]
      · rfl
    by_cases hk : ∃ k ts, t = .tup (.str k :: ts)
    · obtain ⟨k, ts, rfl⟩ := hk
      rw [so, so, ih, oo]
    · rw [so_none hk, so_none hk]
theorem find_perm {S T : List Dc} (p : T.Perm S) (nd : (S.map (·.1)).Nodup) (nm : Str) : T.find? (fun x => decide (x.1 = nm)) = S.find? (fun x => decide (x.1 = nm)) := by
  have ndT : (T.map (·.1)).Nodup := (p.map _).nodup_iff.mpr nd
  cases h : S.find? (fun x => decide (x.1 = nm)) with
  | some x =>
    have e : x.1 = nm := by have := List.find?_some h; simpa using this
    subst e
    exact find_nodup ndT (p.mem_iff.mpr (List.mem_of_find?_eq_some h))
  | none =>
    rw [List.find?_eq_none] at h ⊢
    exact fun x hx => h x (p.mem_iff.mp hx)
section
variable {cl : CallD} {gl : List (Str × D)} {τ : Sd} {h : Hd} {Z : Endd} {Q : PD}
@[simp ↓] theorem x_augL {a : Nat} {ys : List D} : augW .add (.loc a) (.tl ys) h Q = lstQ h[a]? fun xs => xs.length + ys.length ≤ sizeLine ∧ Q (.loc a) (h.set a (.lst (xs ++ ys))) := by
  simp only [augW, mutOf, lstOf, lstQ]
  try (rcases h[a]? with _ | ⟨_ | _ | _⟩ <;> rfl)
end
/-- a loop by an invariant and a measure -/
theorem while_inv {t : TTd} {body : TSd} {Z : Endd} {τ : Sd} {h : Hd} (I : Nat → Sd → Hd → Prop) {m : Nat} (h0 : I m τ h)
    (step : ∀ m τ h, I m τ h → t τ h fun k h1 => if k = true then body { Z with nx := fun τ' h' => ∃ m', m' < m ∧ I m' τ' h', ct := fun τ' h' => ∃ m', m' < m ∧ I m' τ' h', bk := Z.nx } τ h1 else Z.nx τ h1) : whileW t body Z τ h := ⟨I, ⟨m, h0⟩, step⟩
end Py

namespace Py
open PySem PySem.Spec PyProof.Rows L2
/-! ### the text of data tells it -/
/-- data of numbers, plain words and tuples -/
def txt : Nat → D → Prop
  | 0, _ => False
  | n + 1, .tup xs => ∀ x ∈ xs, txt n x
  | _ + 1, .str x => x.cps.toList.all okSign = true
  | _ + 1, .int _ => True
  | _ + 1, _ => False
theorem txt_mono : ∀ {n : Nat} {x : D}, txt n x → txt (n + 1) x
  | 0, _, h => h.elim
  | n + 1, .tup xs, h => fun x hx => txt_mono (h x hx)
  | n + 1, .str x, h => h
  | n + 1, .int _, h => trivial
  | n + 1, .non, h => h.elim
  | n + 1, .bl _, h => h.elim
  | n + 1, .loc _, h => h.elim
  | n + 1, .tl _, h => h.elim
  | n + 1, .td _ _ _, h => h.elim
  | n + 1, .rl _, h => h.elim
theorem txt_le {n m : Nat} {x : D} (h : txt n x) (hm : n ≤ m) : txt m x := by
  induction hm with
  | refl => exact h
  | step _ ih => exact txt_mono ih
def T (x : D) : List Nat := x.pd.shown.cps.toList
def T2 : List D → List Nat
  | [] => [41]
  | [x] => T x ++ [41]
  | x :: y :: r => T x ++ 44 :: 32 :: T2 (y :: r)
def T1 : List D → List Nat
  | [x] => T x ++ [44, 41]
  | xs => T2 xs
theorem T_joined : ∀ (x : D) (xs : List D), (Str.join ", " (PyData.shownAll (D.pds (x :: xs)))).cps.toList ++ [41] = T2 (x :: xs)
  | x, [] => rfl
  | x, y :: r => by
    have ih := T_joined y r
    simp only [D.pds, PyData.shownAll] at ih ⊢
    rw [join_cons_cons, cps_toList_append, cps_toList_append, List.append_assoc, List.append_assoc, ih]
    show T x ++ ((", " : Str).cps.toList ++ T2 (y :: r)) = T x ++ 44 :: 32 :: T2 (y :: r)
    rw [show ((", " : Str).cps.toList) = [44, 32] from by decide +kernel]
    rfl
theorem T_tup (xs : List D) : T (.tup xs) = 40 :: T1 xs := by
  show (tupleText (PyData.shownAll (D.pds xs))).cps.toList = _
  unfold tupleText
  rw [cps_toList_append, cps_toList_append, show (("(" : Str).cps.toList) = [40] from by decide +kernel]
  match xs with
  | [] => decide +kernel
  | [x] =>
    simp only [D.pds, PyData.shownAll]
    rw [join_one, if_pos (by rfl), show (((",)" : String) : Str).cps.toList) = [44, 41] from by decide +kernel]
    rfl
  | x :: y :: r =>
    rw [if_neg (by simp [D.pds, PyData.shownAll]), show (((")" : String) : Str).cps.toList) = [41] from by decide +kernel, List.append_assoc, T_joined]
    rfl
theorem sign_char : ∀ c ∈ letters.cps.toList ++ digits.cps.toList, Builtin.Str.reprChar 39 c = [c] ∧ c ≠ 39 := by decide +kernel
theorem sign_ok {c : Nat} (h : okSign c = true) : Builtin.Str.reprChar 39 c = [c] ∧ c ≠ 39 := by
  refine sign_char c ?_
  unfold okSign at h
  simpa using h
theorem repr_fold : ∀ (l : List Nat) (acc : Array Nat), l.all okSign = true → (l.foldl (fun out c => out ++ (Builtin.Str.reprChar 39 c).toArray) acc).toList = acc.toList ++ l
  | [], acc, _ => by simp
  | c :: l, acc, h => by
    rw [List.all_cons, Bool.and_eq_true] at h
    rw [List.foldl_cons, repr_fold l _ h.2, (sign_ok h.1).1]
    simp
theorem T_str {x : Str} (h : x.cps.toList.all okSign = true) : T (.str x) = 39 :: (x.cps.toList ++ [39]) := by
  show (reprText x).cps.toList = _
  have q : reprQuote x = 39 := by
    unfold reprQuote
    rw [if_neg]
    intro z
    rw [Bool.and_eq_true] at z
    have z1 : 39 ∈ x.cps.toList := by simpa using z.1
    exact (sign_ok (List.all_eq_true.mp h 39 z1)).2 rfl
  unfold reprText
  rw [q, ← Array.foldl_toList]
  simp only [Array.toList_push]
  rw [repr_fold _ _ h]
  rfl
theorem T_int (i : Int) : T (.int i) = (toString i).toList.map Char.toNat := by
  show (PyData.int i).shown.cps.toList = _
  rw [PyData.shown_int]
  exact signs_ofString _
theorem int_T_inj {i j : Int} (h : T (.int i) = T (.int j)) : i = j := by
  rw [T_int, T_int] at h
  have e : (toString i).toList = (toString j).toList := (List.map_inj_right fun a b e => Char.toNat_inj.mp e).mp h
  have e2 : toString i = toString j := String.toList_inj.mp e
  rw [Int.toString_eq_repr, Int.toString_eq_repr] at e2
  exact Int.repr_inj.mp e2
/-- a text ends, or a sign that ends an item follows -/
def EndT (u : List Nat) : Prop := ∀ c r, u = c :: r → c = 44 ∨ c = 41
theorem split_end : ∀ {a b u v : List Nat}, (∀ c ∈ a, c ≠ 44 ∧ c ≠ 41) → (∀ c ∈ b, c ≠ 44 ∧ c ≠ 41) → EndT u → EndT v → a ++ u = b ++ v → a = b ∧ u = v
  | [], [], u, v, _, _, _, _, h => ⟨rfl, h⟩
  | [], c :: b, u, v, _, hb, hu, _, h => by
    have z := hb c List.mem_cons_self
    rcases hu c (b ++ v) h with e | e
    · exact absurd e z.1
    · exact absurd e z.2
  | c :: a, [], u, v, ha, _, _, hv, h => by
    have z := ha c List.mem_cons_self
    rcases hv c (a ++ u) h.symm with e | e
    · exact absurd e z.1
    · exact absurd e z.2
  | c :: a, d :: b, u, v, ha, hb, hu, hv, h => by
    simp only [List.cons_append, List.cons.injEq] at h
    obtain ⟨e1, e2⟩ := split_end (fun c hc => ha c (List.mem_cons_of_mem _ hc)) (fun c hc => hb c (List.mem_cons_of_mem _ hc)) hu hv h.2
    exact ⟨by rw [h.1, e1], e2⟩
theorem split_quote : ∀ {a b u v : List Nat}, (∀ c ∈ a, c ≠ 39) → (∀ c ∈ b, c ≠ 39) → a ++ 39 :: u = b ++ 39 :: v → a = b ∧ u = v
  | [], [], u, v, _, _, h => ⟨rfl, by simpa using h⟩
  | [], c :: b, u, v, _, hb, h => by
    simp only [List.nil_append, List.cons_append, List.cons.injEq] at h
    exact absurd h.1.symm (hb c List.mem_cons_self)
  | c :: a, [], u, v, ha, _, h => by
    simp only [List.nil_append, List.cons_append, List.cons.injEq] at h
    exact absurd h.1 (ha c List.mem_cons_self)
  | c :: a, d :: b, u, v, ha, hb, h => by
    simp only [List.cons_append, List.cons.injEq] at h
    obtain ⟨e1, e2⟩ := split_quote (fun c hc => ha c (List.mem_cons_of_mem _ hc)) (fun c hc => hb c (List.mem_cons_of_mem _ hc)) h.2
    exact ⟨by rw [h.1, e1], e2⟩
theorem int_sgn (i : Int) : ∀ c ∈ T (.int i), c = 45 ∨ (48 ≤ c ∧ c ≤ 57) := by
  intro c hc
  rw [T_int] at hc
  obtain ⟨ch, h, e⟩ := List.mem_map.mp hc
  rcases int_sign i ch h with d | d
  · have := digit_range d
    omega
  · left
    rw [← e, d]
    decide
theorem int_ne (i : Int) : T (.int i) ≠ [] := by
  rw [T_int]
  intro h
  have e : (toString i).toList = [] := by simpa using h
  rw [Int.toString_eq_repr, Int.repr_eq_if] at e
  split at e
  · rw [Nat.toList_repr] at e
    exact absurd e (by simp)
  · rw [String.toList_append] at e
    exact absurd e (by simp)
/-- how a text begins -/
theorem T_head : ∀ {n : Nat} {x : D}, txt n x → ∃ c r, T x = c :: r ∧ c ≠ 41 ∧ ((∃ xs, x = .tup xs ∧ c = 40) ∨ (∃ z, x = .str z ∧ c = 39) ∨ (∃ i, x = .int i ∧ c ≠ 39 ∧ c ≠ 40))
  | 0, _, h => h.elim
  | n + 1, .tup xs, h => ⟨40, T1 xs, T_tup xs, by decide, .inl ⟨xs, rfl, rfl⟩⟩
  | n + 1, .str x, h => ⟨39, _, T_str h, by decide, .inr (.inl ⟨x, rfl, rfl⟩)⟩
  | n + 1, .int i, h => by
    cases e : T (.int i) with
    | nil => exact absurd e (int_ne i)
    | cons c r =>
      have := int_sgn i c (by rw [e]; exact List.mem_cons_self)
      exact ⟨c, r, rfl, by omega, .inr (.inr ⟨i, rfl, by omega, by omega⟩)⟩
  | n + 1, .non, h => h.elim
  | n + 1, .bl _, h => h.elim
  | n + 1, .loc _, h => h.elim
  | n + 1, .tl _, h => h.elim
  | n + 1, .td _ _ _, h => h.elim
  | n + 1, .rl _, h => h.elim
theorem end_c {r : List Nat} : EndT (44 :: r) := fun c _ h => by cases h; exact .inl rfl
theorem end_p {r : List Nat} : EndT (41 :: r) := fun c _ h => by cases h; exact .inr rfl
theorem T2_read {n m : Nat} (ih : ∀ (x y : D) (u v : List Nat), txt n x → txt m y → EndT u → EndT v → T x ++ u = T y ++ v → x = y ∧ u = v) : ∀ (xs ys : List D) (u v : List Nat), xs ≠ [] → ys ≠ [] → (∀ x ∈ xs, txt n x) → (∀ y ∈ ys, txt m y) → T2 xs ++ u = T2 ys ++ v → xs = ys ∧ u = v
  | [], _, _, _, h, _, _, _, _ => absurd rfl h
  | _, [], _, _, _, h, _, _, _ => absurd rfl h
  | [x], [y], u, v, _, _, hx, hy, h => by
    simp only [T2, List.append_assoc, List.cons_append, List.nil_append] at h
    obtain ⟨e1, e2⟩ := ih x y _ _ (hx _ List.mem_cons_self) (hy _ List.mem_cons_self) end_p end_p h
    exact ⟨by rw [e1], by simpa using e2⟩
  | [x], y :: y2 :: r, u, v, _, _, hx, hy, h => by
    simp only [T2, List.append_assoc, List.cons_append, List.nil_append] at h
    obtain ⟨e1, e2⟩ := ih x y _ _ (hx _ List.mem_cons_self) (hy _ List.mem_cons_self) end_p end_c h
    simp at e2
  | x :: x2 :: r, [y], u, v, _, _, hx, hy, h => by
    simp only [T2, List.append_assoc, List.cons_append, List.nil_append] at h
    obtain ⟨e1, e2⟩ := ih x y _ _ (hx _ List.mem_cons_self) (hy _ List.mem_cons_self) end_c end_p h
    simp at e2
  | x :: x2 :: r, y :: y2 :: q, u, v, _, _, hx, hy, h => by
    simp only [T2, List.append_assoc, List.cons_append, List.nil_append] at h
    obtain ⟨e1, e2⟩ := ih x y _ _ (hx _ List.mem_cons_self) (hy _ List.mem_cons_self) end_c end_c h
    simp only [List.cons.injEq, true_and] at e2
    obtain ⟨e3, e4⟩ := T2_read ih (x2 :: r) (y2 :: q) u v (by simp) (by simp) (fun x h => hx x (List.mem_cons_of_mem _ h)) (fun x h => hy x (List.mem_cons_of_mem _ h)) e2
    exact ⟨by rw [e1, e3], e4⟩
theorem T2_nil {n : Nat} {ys : List D} {u v : List Nat} (hn : ys ≠ []) (hy : ∀ y ∈ ys, txt n y) (h : 41 :: u = T2 ys ++ v) : False := by
  obtain ⟨y, r, rfl⟩ := List.exists_cons_of_ne_nil hn
  obtain ⟨c, q, e, hc, _⟩ := T_head (hy y List.mem_cons_self)
  cases r with
  | nil => simp only [T2, e, List.cons_append, List.cons.injEq] at h; exact hc h.1.symm
  | cons z r => simp only [T2, e, List.cons_append, List.cons.injEq] at h; exact hc h.1.symm
theorem T1_read {n m : Nat} (ih : ∀ (x y : D) (u v : List Nat), txt n x → txt m y → EndT u → EndT v → T x ++ u = T y ++ v → x = y ∧ u = v) : ∀ (xs ys : List D) (u v : List Nat), (∀ x ∈ xs, txt n x) → (∀ y ∈ ys, txt m y) → T1 xs ++ u = T1 ys ++ v → xs = ys ∧ u = v := by
  intro xs ys u v hx hy h
  have two : ∀ (x : D) (zs : List D) (k : Nat) (u v : List Nat) , False → False := fun _ _ _ _ _ h => h
  match xs, ys, hx, hy, h with
  | [], [], _, _, h => exact ⟨rfl, by simpa [T1, T2] using h⟩
  | [], [y], _, hy, h =>
    exfalso
    obtain ⟨c, q, e, hc, _⟩ := T_head (hy y List.mem_cons_self)
    simp only [T1, T2, e, List.cons_append, List.nil_append, List.cons.injEq] at h
    exact hc h.1.symm
  | [], y :: z :: r, _, hy, h =>
    exfalso
    exact T2_nil (ys := y :: z :: r) (u := u) (v := v) (by simp) hy (by simpa [T1, T2] using h)
  | [x], [], hx, _, h =>
    exfalso
    obtain ⟨c, q, e, hc, _⟩ := T_head (hx x List.mem_cons_self)
    simp only [T1, T2, e, List.cons_append, List.nil_append, List.cons.injEq] at h
    exact hc h.1
  | x :: z :: r, [], hx, _, h =>
    exfalso
    exact T2_nil (ys := x :: z :: r) (u := v) (v := u) (by simp) hx (by simpa [T1, T2] using h.symm)
  | [x], [y], hx, hy, h =>
    simp only [T1, List.append_assoc, List.cons_append, List.nil_append] at h
    obtain ⟨e1, e2⟩ := ih x y _ _ (hx _ List.mem_cons_self) (hy _ List.mem_cons_self) end_c end_c h
    exact ⟨by rw [e1], by simpa using e2⟩
  | [x], y :: z :: r, hx, hy, h =>
    simp only [T1, T2, List.append_assoc, List.cons_append, List.nil_append] at h
    obtain ⟨e1, e2⟩ := ih x y _ _ (hx _ List.mem_cons_self) (hy _ List.mem_cons_self) end_c end_c h
    simp at e2
  | x :: z :: r, [y], hx, hy, h =>
    simp only [T1, T2, List.append_assoc, List.cons_append, List.nil_append] at h
    obtain ⟨e1, e2⟩ := ih x y _ _ (hx _ List.mem_cons_self) (hy _ List.mem_cons_self) end_c end_c h
    simp at e2
  | x :: z :: r, y :: w :: q, hx, hy, h => exact T2_read ih (x :: z :: r) (y :: w :: q) u v (by simp) (by simp) hx hy h
theorem T_read : ∀ (n m : Nat) (x y : D) (u v : List Nat), txt n x → txt m y → EndT u → EndT v → T x ++ u = T y ++ v → x = y ∧ u = v
  | 0, _, _, _, _, _, h, _, _, _, _ => h.elim
  | _ + 1, 0, _, _, _, _, _, h, _, _, _ => h.elim
  | n + 1, m + 1, x, y, u, v, hx, hy, hu, hv, h => by
    obtain ⟨c, r, e1, _, k1⟩ := T_head hx
    obtain ⟨d, q, e2, _, k2⟩ := T_head hy
    have ec : c = d := by
      rw [e1, e2] at h
      simp only [List.cons_append, List.cons.injEq] at h
      exact h.1
    subst ec
    rcases k1 with ⟨xs, rfl, h1⟩ | ⟨z, rfl, h1⟩ | ⟨i, rfl, h1, h2⟩
    · rcases k2 with ⟨ys, rfl, g1⟩ | ⟨z, rfl, g1⟩ | ⟨i, rfl, g1, g2⟩
      · rw [T_tup, T_tup] at h
        simp only [List.cons_append, List.cons.injEq, true_and] at h
        obtain ⟨a, b⟩ := T1_read (fun x y u v a b c d e => T_read n m x y u v a b c d e) xs ys u v hx hy h
        exact ⟨by rw [a], b⟩
      · omega
      · omega
    · rcases k2 with ⟨ys, rfl, g1⟩ | ⟨w, rfl, g1⟩ | ⟨i, rfl, g1, g2⟩
      · omega
      · have hx : z.cps.toList.all okSign = true := hx
        have hy : w.cps.toList.all okSign = true := hy
        rw [T_str hx, T_str hy] at h
        simp only [List.cons_append, List.append_assoc, List.nil_append, List.cons.injEq, true_and] at h
        obtain ⟨a, b⟩ := split_quote (fun c hc => (sign_ok (List.all_eq_true.mp hx c hc)).2) (fun c hc => (sign_ok (List.all_eq_true.mp hy c hc)).2) h
        refine ⟨?_, b⟩
        cases z
        cases w
        simp only [D.str.injEq, Str.mk.injEq]
        exact Array.toList_inj.mp a
      · omega
    · rcases k2 with ⟨ys, rfl, g1⟩ | ⟨w, rfl, g1⟩ | ⟨j, rfl, g1, g2⟩
      · omega
      · omega
      · obtain ⟨a, b⟩ := split_end (fun c hc => by have := int_sgn i c hc; omega) (fun c hc => by have := int_sgn j c hc; omega) hu hv h
        exact ⟨by rw [int_T_inj a], b⟩
/-- data with alike texts are alike -/
theorem shown_inj {n m : Nat} {x y : D} (hx : txt n x) (hy : txt m y) (h : x.pd.shown = y.pd.shown) : x = y := by
  refine (T_read n m x y [] [] hx hy (fun _ _ h => by cases h) (fun _ _ h => by cases h) ?_).1
  unfold T
  rw [h]
end Py

namespace Py
open PySem PySem.Spec PyProof.Rows L2
/-! ### equality of values is decided -/
mutual
def deq : D → D → Bool
  | .non, .non => true
  | .bl a, .bl b => a == b
  | .int a, .int b => a == b
  | .str a, .str b => decide (a = b)
  | .tup a, .tup b => deqs a b
  | .loc a, .loc b => a == b
  | .tl a, .tl b => deqs a b
  | .td t a b, .td u c d => t == u && (deqs a c && deqs b d)
  | .rl a, .rl b => deqs a b
  | _, _ => false
def deqs : List D → List D → Bool
  | [], [] => true
  | x :: xs, y :: ys => deq x y && deqs xs ys
  | _, _ => false
end
mutual
theorem deq_iff : ∀ x y : D, deq x y = true ↔ x = y
  | .non, y => by cases y <;> simp [deq]
  | .bl a, y => by cases y <;> simp [deq]
  | .int a, y => by cases y <;> simp [deq]
  | .str a, y => by cases y <;> simp [deq]
  | .loc a, y => by cases y <;> simp [deq]
  | .tup a, y => by cases y <;> simp [deq, deqs_iff a]
  | .tl a, y => by cases y <;> simp [deq, deqs_iff a]
  | .rl a, y => by cases y <;> simp [deq, deqs_iff a]
  | .td t a b, y => by cases y <;> simp [deq, deqs_iff a, deqs_iff b]
theorem deqs_iff : ∀ x y : List D, deqs x y = true ↔ x = y
  | [], y => by cases y <;> simp [deqs]
  | a :: x, y => by cases y <;> simp [deqs, deq_iff a, deqs_iff x]
end
instance : DecidableEq D := fun x y => decidable_of_iff _ (deq_iff x y)
/-! ### lengths of texts, exactly -/
theorem T_len (x : D) : (T x).length = tlen x := rfl
def ov (n : Nat) : Nat := if n = 0 then 2 else if n = 1 then 3 else 2 * n
theorem T2_len : ∀ (x : D) (xs : List D), (T2 (x :: xs)).length = ((x :: xs).map tlen).sum + 2 * xs.length + 1
  | x, [] => by simp [T2, T_len]
  | x, y :: r => by
    have ih := T2_len y r
    show (T x ++ 44 :: 32 :: T2 (y :: r)).length = _
    rw [List.length_append, List.length_cons, List.length_cons, ih, T_len]
    simp only [List.map_cons, List.sum_cons, List.length_cons]
    omega
theorem tlen_tup (xs : List D) : tlen (.tup xs) = (xs.map tlen).sum + ov xs.length := by
  rw [← T_len, T_tup, List.length_cons]
  match xs with
  | [] => rfl
  | [x] =>
    show (T x ++ [44, 41]).length + 1 = _
    simp [T_len, ov]
  | x :: y :: r =>
    show (T2 (x :: y :: r)).length + 1 = _
    rw [T2_len]
    simp only [List.map_cons, List.sum_cons, List.length_cons, ov]
    split
    · omega
    · split <;> omega
/-! ### good data -/
def gd : Nat → D → Prop
  | 0, _ => False
  | n + 1, .tup xs => xs.length ≤ 1000 ∧ ∀ x ∈ xs, gd n x
  | _ + 1, .str x => x.length ≤ 1000 ∧ x.cps.toList.all okSign = true
  | _ + 1, .int i => i.natAbs.log2 < 1920
  | _ + 1, _ => False
theorem gd_mono : ∀ {n : Nat} {x : D}, gd n x → gd (n + 1) x
  | 0, _, h => h.elim
  | n + 1, .tup xs, h => ⟨h.1, fun x hx => gd_mono (h.2 x hx)⟩
  | n + 1, .str x, h => h
  | n + 1, .int _, h => h
  | n + 1, .non, h => h.elim
  | n + 1, .bl _, h => h.elim
  | n + 1, .loc _, h => h.elim
  | n + 1, .tl _, h => h.elim
  | n + 1, .td _ _ _, h => h.elim
  | n + 1, .rl _, h => h.elim
theorem gd_le {n m : Nat} {x : D} (h : gd n x) (hm : n ≤ m) : gd m x := by
  induction hm with
  | refl => exact h
  | step _ ih => exact gd_mono ih
theorem sign_lt : ∀ c ∈ letters.cps.toList ++ digits.cps.toList, c < 0x110000 := by decide +kernel
theorem str_lay2 {x : Str} (h : x.cps.toList.all okSign = true) : (D.str x).pd.canLay0 = true := by
  refine str_lay ?_
  rw [Array.all_eq_true]
  intro i hi
  have hm : x.cps[i] ∈ x.cps.toList := by simp
  have h := List.all_eq_true.mp h _ hm
  refine decide_eq_true (sign_lt _ ?_)
  unfold okSign at h
  simpa using h
theorem gd_fine : ∀ {n : Nat} {x : D}, gd n x → fine n x
  | 0, _, h => h.elim
  | n + 1, .tup xs, h => fine_tup h.1 fun x hx => gd_fine (h.2 x hx)
  | n + 1, .str x, h => fine_str h.1 (str_lay2 h.2)
  | n + 1, .int i, h => ⟨trivial, decide_eq_true h, rfl⟩
  | n + 1, .non, h => h.elim
  | n + 1, .bl _, h => h.elim
  | n + 1, .loc _, h => h.elim
  | n + 1, .tl _, h => h.elim
  | n + 1, .td _ _ _, h => h.elim
  | n + 1, .rl _, h => h.elim
theorem gd_txt : ∀ {n : Nat} {x : D}, gd n x → txt n x
  | 0, _, h => h.elim
  | n + 1, .tup xs, h => fun x hx => gd_txt (h.2 x hx)
  | n + 1, .str x, h => h.2
  | n + 1, .int i, h => trivial
  | n + 1, .non, h => h.elim
  | n + 1, .bl _, h => h.elim
  | n + 1, .loc _, h => h.elim
  | n + 1, .tl _, h => h.elim
  | n + 1, .td _ _ _, h => h.elim
  | n + 1, .rl _, h => h.elim
theorem show_mem : ∀ {xs : List D}, PyData.showableAll (D.pds xs) = true → ∀ x ∈ xs, x.pd.showable = true
  | [], _, _, h => by cases h
  | y :: ys, h, x, hx => by
    simp only [D.pds, PyData.showableAll, Bool.and_eq_true] at h
    rcases List.mem_cons.mp hx with rfl | hx
    · exact h.1
    · exact show_mem h.2 x hx
theorem gd_of : ∀ {n : Nat} {x : D}, okT n x → x.pd.showable = true → txt n x → gd n x
  | 0, _, h, _, _ => h.elim
  | n + 1, .tup xs, h, s, t => ⟨h.1, fun x hx => gd_of (h.2 x hx) (show_mem s x hx) (t x hx)⟩
  | n + 1, .str x, h, s, t => ⟨h, t⟩
  | n + 1, .int i, h, s, t => of_decide_eq_true (p := i.natAbs.log2 < 1920) s
  | n + 1, .non, _, _, h => h.elim
  | n + 1, .bl _, _, _, h => h.elim
  | n + 1, .loc _, _, _, h => h.elim
  | n + 1, .tl _, _, _, h => h.elim
  | n + 1, .td _ _ _, _, _, h => h.elim
  | n + 1, .rl _, _, _, h => h.elim
theorem gd_inj {n m : Nat} {x y : D} (hx : gd n x) (hy : gd m y) (h : x.pd.shown = y.pd.shown) : x = y := shown_inj (gd_txt hx) (gd_txt hy) h
/-! equality of good data -/
mutual
theorem eqv_gd : ∀ (n m : Nat) (x y : D), gd n x → gd m y → (PyData.eqv x.pd y.pd = true ↔ x = y)
  | 0, _, _, _, h, _ => h.elim
  | _ + 1, 0, _, _, _, h => h.elim
  | n + 1, m + 1, .tup xs, .tup ys, hx, hy => by
    have e := eqvs_gd n m xs ys hx.2 hy.2
    simp only [D.pd, D.tup.injEq]
    exact e
  | n + 1, m + 1, .str x, .str y, _, _ => by
    simp only [D.pd, D.str.injEq, PyData.eqv]
    exact beq_iff_eq
  | n + 1, m + 1, .int x, .int y, _, _ => by
    simp only [D.pd, D.int.injEq, PyData.eqv]
    exact beq_iff_eq
  | n + 1, m + 1, .tup xs, .str y, _, _ => by simp [D.pd, PyData.eqv]
  | n + 1, m + 1, .tup xs, .int y, _, _ => by simp [D.pd, PyData.eqv]
  | n + 1, m + 1, .str xs, .tup y, _, _ => by simp [D.pd, PyData.eqv]
  | n + 1, m + 1, .str xs, .int y, _, _ => by simp [D.pd, PyData.eqv]
  | n + 1, m + 1, .int xs, .tup y, _, _ => by simp [D.pd, PyData.eqv]
  | n + 1, m + 1, .int xs, .str y, _, _ => by simp [D.pd, PyData.eqv]
  | n + 1, m + 1, .non, _, h, _ => h.elim
  | n + 1, m + 1, .bl _, _, h, _ => h.elim
  | n + 1, m + 1, .loc _, _, h, _ => h.elim
  | n + 1, m + 1, .tl _, _, h, _ => h.elim
  | n + 1, m + 1, .td _ _ _, _, h, _ => h.elim
  | n + 1, m + 1, .rl _, _, h, _ => h.elim
  | n + 1, m + 1, .tup _, .non, _, h => h.elim
  | n + 1, m + 1, .tup _, .bl _, _, h => h.elim
  | n + 1, m + 1, .tup _, .loc _, _, h => h.elim
  | n + 1, m + 1, .tup _, .tl _, _, h => h.elim
  | n + 1, m + 1, .tup _, .td _ _ _, _, h => h.elim
  | n + 1, m + 1, .tup _, .rl _, _, h => h.elim
  | n + 1, m + 1, .str _, .non, _, h => h.elim
  | n + 1, m + 1, .str _, .bl _, _, h => h.elim
  | n + 1, m + 1, .str _, .loc _, _, h => h.elim
  | n + 1, m + 1, .str _, .tl _, _, h => h.elim
  | n + 1, m + 1, .str _, .td _ _ _, _, h => h.elim
  | n + 1, m + 1, .str _, .rl _, _, h => h.elim
  | n + 1, m + 1, .int _, .non, _, h => h.elim
  | n + 1, m + 1, .int _, .bl _, _, h => h.elim
  | n + 1, m + 1, .int _, .loc _, _, h => h.elim
  | n + 1, m + 1, .int _, .tl _, _, h => h.elim
  | n + 1, m + 1, .int _, .td _ _ _, _, h => h.elim
  | n + 1, m + 1, .int _, .rl _, _, h => h.elim
theorem eqvs_gd : ∀ (n m : Nat) (xs ys : List D), (∀ x ∈ xs, gd n x) → (∀ y ∈ ys, gd m y) → (PyData.eqv (.tuple (D.pds xs)) (.tuple (D.pds ys)) = true ↔ xs = ys)
  | n, m, [], [], _, _ => by simp [D.pds, PyData.eqv, PyData.eqvAll]
  | n, m, [], y :: ys, _, _ => by simp [D.pds, PyData.eqv, PyData.eqvAll]
  | n, m, x :: xs, [], _, _ => by simp [D.pds, PyData.eqv, PyData.eqvAll]
  | n, m, x :: xs, y :: ys, hx, hy => by
    have a := eqv_gd n m x y (hx x List.mem_cons_self) (hy y List.mem_cons_self)
    have b := eqvs_gd n m xs ys (fun z hz => hx z (List.mem_cons_of_mem _ hz)) (fun z hz => hy z (List.mem_cons_of_mem _ hz))
    simp only [D.pds, PyData.eqv, PyData.eqvAll, Bool.and_eq_true, List.cons.injEq] at b ⊢
    rw [a, b]
end
theorem eqv_dec {n m : Nat} {x y : D} (hx : gd n x) (hy : gd m y) : PyData.eqv x.pd y.pd = decide (x = y) := by
  rw [Bool.eq_iff_iff, eqv_gd n m x y hx hy, decide_eq_true_eq]
/-! ### the term with other terms in it -/
def itW : D → D → D := fun i u => match i with
  | .tup (f :: _) => .tup [f, u]
  | _ => u
def withL (k : Str) (ts L : List D) : D :=
  if k = "of" then (match ts with
    | a :: _ => .tup [.str "of", a, .tup L]
    | _ => .non)
  else if k = "sum" then (match ts with
    | [.tup its, b] => .tup [.str "sum", .tup (List.zipWith itW its L), b]
    | _ => .non)
  else if k = "all" ∨ k = "some" then .tup [.str k, .tup L]
  else .tup (.str k :: L)
def withD (t : D) (L : List D) : D := match t with
  | .tup (.str k :: ts) => withL k ts L
  | _ => t
theorem with_of {a : D} {ts L : List D} : withD (.tup (.str "of" :: a :: ts)) L = .tup [.str "of", a, .tup L] := rfl
theorem with_sum {its L : List D} {b : D} : withD (.tup [.str "sum", .tup its, b]) L = .tup [.str "sum", .tup (List.zipWith itW its L), b] := by
  show withL "sum" [.tup its, b] L = _
  unfold withL
  rw [if_neg (by decide), if_pos rfl]
theorem with_row {k : Str} {ts L : List D} (hk : k = "all" ∨ k = "some") : withD (.tup (.str k :: ts)) L = .tup [.str k, .tup L] := by
  show withL k ts L = _
  unfold withL
  rw [if_neg (by rcases hk with rfl | rfl <;> decide), if_neg (by rcases hk with rfl | rfl <;> decide), if_pos hk]
theorem with_flat {k : Str} {ts L : List D} (h1 : k ≠ "of") (h2 : k ≠ "sum") (h3 : ¬ (k = "all" ∨ k = "some")) : withD (.tup (.str k :: ts)) L = .tup (.str k :: L) := by
  show withL k ts L = _
  unfold withL
  rw [if_neg h1, if_neg h2, if_neg h3]
theorem insL_row {k : Str} {as : List D} (hk : k = "all" ∨ k = "some") : insL k [.tup as] = as := by
  unfold insL
  rw [if_neg (by rcases hk with rfl | rfl <;> decide), if_neg (by rcases hk with rfl | rfl <;> decide), if_pos hk]
theorem insL_flat {k : Str} {as : List D} (h1 : k ≠ "of") (h2 : k ≠ "sum") (h3 : ¬ (k = "all" ∨ k = "some")) : insL k as = as := by
  unfold insL
  rw [if_neg h1, if_neg h2, if_neg h3]
/-- the shapes of a term -/
theorem shp_cases {t : D} (hs : shp t) : (∃ a as, t = .tup [.str "of", a, .tup as] ∧ insD t = as) ∨ (∃ its b, t = .tup [.str "sum", .tup its, b] ∧ insD t = its.map part2 ∧ ∀ i ∈ its, ∃ f u, i = .tup [f, u]) ∨
    (∃ (k : Str) (as : List D), (k = "all" ∨ k = "some") ∧ t = .tup [.str k, .tup as] ∧ insD t = as) ∨ (∃ (k : Str) (as : List D), k ≠ "of" ∧ k ≠ "sum" ∧ ¬ (k = "all" ∨ k = "some") ∧ t = .tup (.str k :: as) ∧ insD t = as) := by
  obtain ⟨k, ts, rfl, c1, c2, c3⟩ := hs
  by_cases e1 : k = "of"
  · subst e1
    obtain ⟨a, as, rfl⟩ := c1 rfl
    exact .inl ⟨a, as, rfl, rfl⟩
  by_cases e2 : k = "sum"
  · subst e2
    obtain ⟨its, b, rfl, hi⟩ := c2 rfl
    exact .inr (.inl ⟨its, b, rfl, rfl, hi⟩)
  by_cases e3 : k = "all" ∨ k = "some"
  · obtain ⟨as, rfl⟩ := c3 e3
    exact .inr (.inr (.inl ⟨k, as, e3, rfl, insL_row e3⟩))
  · exact .inr (.inr (.inr ⟨k, ts, e1, e2, e3, rfl, insL_flat e1 e2 e3⟩))
theorem zip_ins : ∀ {its L : List D}, (∀ i ∈ its, ∃ f u, i = .tup [f, u]) → L.length = its.length → (List.zipWith itW its L).map part2 = L
  | [], [], _, _ => rfl
  | [], _ :: _, _, h => by cases h
  | _ :: _, [], _, h => by cases h
  | i :: its, u :: L, hi, hl => by
    obtain ⟨f, v, rfl⟩ := hi _ List.mem_cons_self
    rw [List.zipWith_cons_cons, List.map_cons, zip_ins (fun j hj => hi j (List.mem_cons_of_mem _ hj)) (by simpa using hl)]
    rfl
theorem zip_self : ∀ {its : List D}, (∀ i ∈ its, ∃ f u, i = .tup [f, u]) → List.zipWith itW its (its.map part2) = its
  | [], _ => rfl
  | i :: its, hi => by
    obtain ⟨f, v, rfl⟩ := hi _ List.mem_cons_self
    rw [List.map_cons, List.zipWith_cons_cons, zip_self (fun j hj => hi j (List.mem_cons_of_mem _ hj))]
    rfl
theorem zip_zip : ∀ {its L M : List D}, (∀ i ∈ its, ∃ f u, i = .tup [f, u]) → L.length = its.length → List.zipWith itW (List.zipWith itW its L) M = List.zipWith itW its M
  | [], [], M, _, _ => rfl
  | [], _ :: _, _, _, h => by cases h
  | _ :: _, [], _, _, h => by cases h
  | i :: its, u :: L, [], _, _ => by simp
  | i :: its, u :: L, m :: M, hi, hl => by
    obtain ⟨f, v, rfl⟩ := hi _ List.mem_cons_self
    rw [List.zipWith_cons_cons, List.zipWith_cons_cons, List.zipWith_cons_cons, zip_zip (fun j hj => hi j (List.mem_cons_of_mem _ hj)) (by simpa using hl)]
    rfl
theorem zip_pairs : ∀ {its L : List D}, (∀ i ∈ its, ∃ f u, i = .tup [f, u]) → ∀ i ∈ List.zipWith itW its L, ∃ f u, i = .tup [f, u]
  | [], L, _, i, h => by simp at h
  | _ :: _, [], _, i, h => by simp at h
  | j :: its, u :: L, hi, i, h => by
    obtain ⟨f, v, rfl⟩ := hi _ List.mem_cons_self
    rw [List.zipWith_cons_cons] at h
    rcases List.mem_cons.mp h with rfl | h
    · exact ⟨f, u, rfl⟩
    · exact zip_pairs (fun j hj => hi j (List.mem_cons_of_mem _ hj)) i h
theorem with_self {t : D} (hs : shp t) : withD t (insD t) = t := by
  rcases shp_cases hs with ⟨a, as, rfl, e⟩ | ⟨its, b, rfl, e, hi⟩ | ⟨k, as, hk, rfl, e⟩ | ⟨k, as, h1, h2, h3, rfl, e⟩
  · rw [e]; rfl
  · rw [e, with_sum, zip_self hi]
  · rw [e, with_row hk]
  · rw [e, with_flat h1 h2 h3]
theorem with_with {t : D} {L M : List D} (hs : shp t) (hl : L.length = (insD t).length) : withD (withD t L) M = withD t M := by
  rcases shp_cases hs with ⟨a, as, rfl, e⟩ | ⟨its, b, rfl, e, hi⟩ | ⟨k, as, hk, rfl, e⟩ | ⟨k, as, h1, h2, h3, rfl, e⟩
  · rfl
  · rw [e, List.length_map] at hl
    rw [with_sum, with_sum, with_sum, zip_zip hi hl]
  · rw [with_row hk, with_row hk, with_row hk]
  · rw [with_flat h1 h2 h3, with_flat h1 h2 h3, with_flat h1 h2 h3]
theorem ins_with {t : D} {L : List D} (hs : shp t) (hl : L.length = (insD t).length) : insD (withD t L) = L := by
  rcases shp_cases hs with ⟨a, as, rfl, e⟩ | ⟨its, b, rfl, e, hi⟩ | ⟨k, as, hk, rfl, e⟩ | ⟨k, as, h1, h2, h3, rfl, e⟩
  · rfl
  · rw [e, List.length_map] at hl
    rw [with_sum]
    exact zip_ins hi hl
  · rw [with_row hk]
    exact insL_row hk
  · rw [with_flat h1 h2 h3]
    exact insL_flat h1 h2 h3
theorem shp_with {t : D} {L : List D} (hs : shp t) (hl : L.length = (insD t).length) : shp (withD t L) := by
  rcases shp_cases hs with ⟨a, as, rfl, e⟩ | ⟨its, b, rfl, e, hi⟩ | ⟨k, as, hk, rfl, e⟩ | ⟨k, as, h1, h2, h3, rfl, e⟩
  · exact ⟨"of", _, rfl, fun _ => ⟨_, _, rfl⟩, fun z => absurd z (by decide), fun z => by rcases z with z | z <;> exact absurd z (by decide)⟩
  · rw [with_sum]
    exact ⟨"sum", _, rfl, fun z => absurd z (by decide), fun _ => ⟨_, _, rfl, zip_pairs hi⟩, fun z => by rcases z with z | z <;> exact absurd z (by decide)⟩
  · rw [with_row hk]
    exact ⟨k, _, rfl, fun z => by subst z; rcases hk with z | z <;> exact absurd z (by decide), fun z => by subst z; rcases hk with z | z <;> exact absurd z (by decide), fun _ => ⟨_, rfl⟩⟩
  · rw [with_flat h1 h2 h3]
    exact ⟨k, _, rfl, fun z => absurd z h1, fun z => absurd z h2, fun z => absurd z h3⟩
/-- what a term says itself -/
theorem zip_len : ∀ {its L : List D}, (∀ i ∈ its, ∃ f u, i = .tup [f, u]) → L.length = its.length → ((List.zipWith itW its L).map tlen).sum + ((its.map part2).map tlen).sum = (its.map tlen).sum + (L.map tlen).sum
  | [], [], _, _ => rfl
  | [], _ :: _, _, h => by cases h
  | _ :: _, [], _, h => by cases h
  | i :: its, u :: L, hi, hl => by
    obtain ⟨f, v, rfl⟩ := hi _ List.mem_cons_self
    have ih := zip_len (fun j hj => hi j (List.mem_cons_of_mem _ hj)) (show L.length = its.length by simpa using hl)
    have e1 : tlen (itW (.tup [f, v]) u) = tlen f + tlen u + 4 := by
      show tlen (.tup [f, u]) = _
      rw [tlen_tup]
      simp [ov]
    have e2 : tlen (.tup [f, v]) = tlen f + tlen v + 4 := by
      rw [tlen_tup]
      simp [ov]
    rw [List.zipWith_cons_cons]
    simp only [List.map_cons, List.sum_cons]
    rw [e1, e2, show part2 (.tup [f, v]) = v from rfl]
    omega
theorem with_len {t : D} {L : List D} (hs : shp t) (hl : L.length = (insD t).length) : tlen (withD t L) + ((insD t).map tlen).sum = tlen t + (L.map tlen).sum := by
  rcases shp_cases hs with ⟨a, as, rfl, e⟩ | ⟨its, b, rfl, e, hi⟩ | ⟨k, as, hk, rfl, e⟩ | ⟨k, as, h1, h2, h3, rfl, e⟩
  · rw [e] at hl ⊢
    rw [with_of, tlen_tup, tlen_tup]
    simp only [List.map_cons, List.sum_cons, List.map_nil, List.sum_nil, List.length_cons, List.length_nil]
    rw [tlen_tup L, tlen_tup as, hl]
    omega
  · rw [e, List.length_map] at hl
    rw [e, with_sum, tlen_tup, tlen_tup]
    simp only [List.map_cons, List.sum_cons, List.map_nil, List.sum_nil, List.length_cons, List.length_nil]
    rw [tlen_tup its, tlen_tup (List.zipWith itW its L)]
    have := zip_len hi hl
    have hz : (List.zipWith itW its L).length = its.length := by rw [List.length_zipWith]; omega
    rw [hz]
    omega
  · rw [e] at hl ⊢
    rw [with_row hk, tlen_tup, tlen_tup]
    simp only [List.map_cons, List.sum_cons, List.map_nil, List.sum_nil, List.length_cons, List.length_nil]
    rw [tlen_tup L, tlen_tup as, hl]
    omega
  · rw [e] at hl ⊢
    rw [with_flat h1 h2 h3, tlen_tup, tlen_tup]
    simp only [List.map_cons, List.sum_cons, List.length_cons]
    rw [hl]
    omega
theorem with_gd {n : Nat} {t : D} {L : List D} (hs : shp t) (o : gd (n + 3) t) (hlI : L.length = (insD t).length) (oL : ∀ u ∈ L, gd n u) : gd (n + 3) (withD t L) := by
  rcases shp_cases hs with ⟨a, as, rfl, e⟩ | ⟨its, b, rfl, e, hi⟩ | ⟨k, as, hk, rfl, e⟩ | ⟨k, as, h1, h2, h3, rfl, e⟩
  · rw [e] at hlI
    obtain ⟨l1, o1⟩ := o
    have ol : gd (n + 2) (.tup as) := o1 _ (by simp)
    rw [with_of]
    refine ⟨by simp, fun x hx => ?_⟩
    simp only [List.mem_cons, List.not_mem_nil, or_false] at hx
    rcases hx with rfl | rfl | rfl
    · exact o1 _ (by simp)
    · exact o1 _ (by simp)
    · exact ⟨by have := ol.1; omega, fun u hu => gd_le (oL u hu) (by omega)⟩
  · rw [e, List.length_map] at hlI
    obtain ⟨l1, o1⟩ := o
    have ol : gd (n + 2) (.tup its) := o1 _ (by simp)
    rw [with_sum]
    refine ⟨by simp, fun x hx => ?_⟩
    simp only [List.mem_cons, List.not_mem_nil, or_false] at hx
    rcases hx with rfl | rfl | rfl
    · exact o1 _ (by simp)
    · refine ⟨by rw [List.length_zipWith]; have := ol.1; omega, fun x hx => ?_⟩
      obtain ⟨j, hj, rfl⟩ := List.mem_iff_getElem.mp hx
      rw [List.getElem_zipWith]
      rw [List.length_zipWith] at hj
      have m1 : its[j]'(by omega) ∈ its := List.getElem_mem _
      have m2 : L[j]'(by omega) ∈ L := List.getElem_mem _
      obtain ⟨f, u, e⟩ := hi _ m1
      have of := ol.2 _ m1
      rw [e] at of ⊢
      refine ⟨by simp, fun x hx => ?_⟩
      simp only [List.mem_cons, List.not_mem_nil, or_false] at hx
      rcases hx with rfl | rfl
      · exact of.2 _ (by simp)
      · exact oL _ m2
    · exact o1 _ (by simp)
  · rw [e] at hlI
    obtain ⟨l1, o1⟩ := o
    have ol : gd (n + 2) (.tup as) := o1 _ (by simp)
    rw [with_row hk]
    refine ⟨by simp, fun x hx => ?_⟩
    simp only [List.mem_cons, List.not_mem_nil, or_false] at hx
    rcases hx with rfl | rfl
    · exact o1 _ (by simp)
    · exact ⟨by have := ol.1; omega, fun u hu => gd_le (oL u hu) (by omega)⟩
  · rw [e] at hlI
    obtain ⟨l1, o1⟩ := o
    rw [with_flat h1 h2 h3]
    refine ⟨by rw [List.length_cons] at l1 ⊢; omega, fun x hx => ?_⟩
    rcases List.mem_cons.mp hx with rfl | hx
    · exact o1 _ (by simp)
    · exact gd_le (oL x hx) (by omega)
/-- a term is as deep as its parts tell -/
theorem gd_ins {n : Nat} {t : D} (hs : shp t) (o : gd n t) : (insD t).length ≤ 1000 ∧ ∀ u ∈ insD t, gd n u := by
  rcases shp_cases hs with ⟨a, as, rfl, e⟩ | ⟨its, b, rfl, e, hi⟩ | ⟨k, as, hk, rfl, e⟩ | ⟨k, as, h1, h2, h3, rfl, e⟩ <;> rw [e]
  all_goals (cases n with | zero => exact o.elim | succ n => ?_)
  · cases n with
    | zero => exact (o.2 (.str "of") (by simp)).elim
    | succ n =>
      have ol : gd (n + 1) (.tup as) := o.2 _ (by simp)
      exact ⟨ol.1, fun u hu => gd_le (ol.2 u hu) (by omega)⟩
  · cases n with
    | zero => exact (o.2 (.str "sum") (by simp)).elim
    | succ n =>
      have ol : gd (n + 1) (.tup its) := o.2 _ (by simp)
      refine ⟨by rw [List.length_map]; exact ol.1, fun u hu => ?_⟩
      obtain ⟨i, hm, rfl⟩ := List.mem_map.mp hu
      obtain ⟨f, v, rfl⟩ := hi i hm
      have oi := ol.2 _ hm
      cases n with
      | zero => exact oi.elim
      | succ n => exact gd_le (oi.2 v (by simp)) (by omega)
  · cases n with
    | zero => exact (o.2 (.str k) (by simp)).elim
    | succ n =>
      have ol : gd (n + 1) (.tup as) := o.2 _ (by simp)
      exact ⟨ol.1, fun u hu => gd_le (ol.2 u hu) (by omega)⟩
  · exact ⟨by have := o.1; rw [List.length_cons] at this; omega, fun u hu => gd_le (o.2 u (List.mem_cons_of_mem _ hu)) (by omega)⟩
def zer (t : D) : List D := (insD t).map fun _ => D.int 0
/-- a term, at most n levels deep, of good data -/
def tm : Nat → D → Prop
  | 0, _ => False
  | n + 1, t => shp t ∧ gd 4 (withD t (zer t)) ∧ ∀ u ∈ insD t, tm n u
theorem tm_mono : ∀ {n : Nat} {t : D}, tm n t → tm (n + 1) t
  | 0, _, h => h.elim
  | n + 1, t, h => ⟨h.1, h.2.1, fun u hu => tm_mono (h.2.2 u hu)⟩
theorem tm_le {n m : Nat} {t : D} (h : tm n t) (hm : n ≤ m) : tm m t := by
  induction hm with
  | refl => exact h
  | step _ ih => exact tm_mono ih
theorem tm_hsh : ∀ {n : Nat} {t : D}, tm n t → hsh n t
  | 0, _, h => h.elim
  | n + 1, t, h => ⟨h.1, fun u hu => tm_hsh (h.2.2 u hu)⟩
theorem tm_sub {n : Nat} {t : D} (h : tm n t) : shp t ∧ gd 4 (withD t (zer t)) ∧ ∀ u ∈ insD t, tm n u := by
  cases n with
  | zero => exact h.elim
  | succ n => exact ⟨h.1, h.2.1, fun u hu => tm_mono (h.2.2 u hu)⟩
theorem zer_len {t : D} : (zer t).length = (insD t).length := by unfold zer; simp
theorem with_zer {t : D} (hs : shp t) : withD (withD t (zer t)) (insD t) = t := by rw [with_with hs zer_len, with_self hs]
theorem tm_gd : ∀ {n : Nat} {t : D}, tm n t → gd (3 * n + 1) t
  | 0, _, h => h.elim
  | n + 1, t, h => by
    have hz : (insD t).length = (insD (withD t (zer t))).length := by rw [ins_with h.1 zer_len, zer_len]
    have := with_gd (n := 3 * n + 1) (t := withD t (zer t)) (L := insD t) (shp_with h.1 zer_len) (gd_le h.2.1 (by omega)) hz fun u hu => tm_gd (h.2.2 u hu)
    rw [with_zer h.1] at this
    exact this
theorem tm_pts : ∀ {n : Nat} {t : D}, tm n t → ∀ p ∈ pts n t, tm n p
  | 0, _, h, _, _ => h.elim
  | n + 1, t, h, p, hp => by
    rcases List.mem_cons.mp hp with rfl | hp
    · exact h
    · obtain ⟨l, hl, hp⟩ := List.mem_flatten.mp hp
      obtain ⟨u, hu, rfl⟩ := List.mem_map.mp hl
      exact tm_mono (tm_pts (h.2.2 u hu) p hp)
theorem mx_ge : ∀ (l : List Int) (m : Int), m ≤ l.foldl max m ∧ ∀ x ∈ l, x ≤ l.foldl max m
  | [], m => ⟨Int.le_refl _, fun x h => by cases h⟩
  | a :: l, m => by
    obtain ⟨h1, h2⟩ := mx_ge l (max m a)
    refine ⟨by rw [List.foldl_cons]; omega, fun x hx => ?_⟩
    rw [List.foldl_cons]
    rcases List.mem_cons.mp hx with rfl | hx
    · omega
    · exact h2 x hx
theorem tm_cut : ∀ {n k : Nat} {t : D}, tm n t → dpn n t ≤ (k : Int) → tm k t
  | 0, _, _, h, _ => h.elim
  | n + 1, 0, t, h, hd => by
    have := (mx_ge ((insD t).map (dpn n)) 0).1
    have hd : 1 + ((insD t).map (dpn n)).foldl max 0 ≤ ((0 : Nat) : Int) := hd
    omega
  | n + 1, k + 1, t, h, hd => by
    have hd : 1 + ((insD t).map (dpn n)).foldl max 0 ≤ ((k + 1 : Nat) : Int) := hd
    refine ⟨h.1, h.2.1, fun u hu => tm_cut (h.2.2 u hu) ?_⟩
    have := (mx_ge ((insD t).map (dpn n)) 0).2 _ (List.mem_map_of_mem hu)
    omega
/-! ### a part put for another -/
def putD (one other : D) : Nat → D → D
  | 0, t => t
  | n + 1, t => if t = one then other else withD t ((insD t).map (putD one other n))
theorem put_mono {one other : D} : ∀ {n : Nat} {t : D}, hsh n t → putD one other (n + 1) t = putD one other n t
  | 0, _, h => h.elim
  | n + 1, t, h => by
    show (if t = one then other else withD t ((insD t).map (putD one other (n + 1)))) = (if t = one then other else withD t ((insD t).map (putD one other n)))
    rw [List.map_congr_left fun u hu => put_mono (h.2 u hu)]
theorem put_sub {one other : D} {n : Nat} {t : D} (h : hsh n t) : putD one other n t = if t = one then other else withD t ((insD t).map (putD one other n)) := by
  rw [← put_mono h]
  rfl
theorem put_tm {one other : D} {k : Nat} (hk : tm k other) : ∀ {n : Nat} {t : D}, tm n t → tm (n + k) (putD one other n t)
  | 0, _, h => h.elim
  | n + 1, t, h => by
    show tm (n + 1 + k) (if t = one then other else withD t ((insD t).map (putD one other n)))
    split
    · exact tm_le hk (by omega)
    · have hl : ((insD t).map (putD one other n)).length = (insD t).length := by simp
      rw [show n + 1 + k = (n + k) + 1 by omega]
      refine ⟨shp_with h.1 hl, ?_, fun u hu => ?_⟩
      · have e : zer (withD t ((insD t).map (putD one other n))) = zer t := by
          unfold zer
          rw [ins_with h.1 hl, List.map_map]
          rfl
        rw [e, with_with h.1 hl]
        exact h.2.1
      · rw [ins_with h.1 hl] at hu
        obtain ⟨v, hv, rfl⟩ := List.mem_map.mp hu
        exact put_tm hk (h.2.2 v hv)
theorem put_tlen {one other : D} : ∀ {n : Nat} {t : D}, hsh n t → tlen (putD one other n t) ≤ tlen t + (pts n t).length * tlen other
  | 0, _, h => h.elim
  | n + 1, t, h => by
    show tlen (if t = one then other else withD t ((insD t).map (putD one other n))) ≤ _
    have e : (pts (n + 1) t).length = 1 + ((insD t).map fun u => (pts n u).length).sum := by
      show (t :: ((insD t).map (pts n)).flatten).length = _
      rw [List.length_cons, List.length_flatten, List.map_map]
      show ((insD t).map fun u => (pts n u).length).sum + 1 = _
      omega
    rw [e]
    split
    · rw [Nat.add_mul]
      omega
    · have hl : ((insD t).map (putD one other n)).length = (insD t).length := by simp
      have q := with_len h.1 hl
      have r : ∀ I : List D, (∀ u ∈ I, hsh n u) → ((I.map (putD one other n)).map tlen).sum ≤ (I.map tlen).sum + (I.map fun u => (pts n u).length).sum * tlen other := by
        intro I
        induction I with
        | nil => intro _; simp
        | cons u I ih =>
          intro hI
          have a := put_tlen (one := one) (other := other) (hI u List.mem_cons_self)
          have b := ih fun v hv => hI v (List.mem_cons_of_mem _ hv)
          simp only [List.map_cons, List.sum_cons] at b ⊢
          rw [Nat.add_mul]
          omega
      have r := r _ h.2
      rw [Nat.add_mul]
      omega
theorem put_many {one other : D} {k : Nat} (hk : hsh k other) : ∀ {n : Nat} {t : D}, hsh n t → (pts (n + k) (putD one other n t)).length ≤ (pts n t).length * (pts k other).length
  | 0, _, h => h.elim
  | n + 1, t, h => by
    have e : (pts (n + 1) t).length = 1 + ((insD t).map fun u => (pts n u).length).sum := by
      show (t :: ((insD t).map (pts n)).flatten).length = _
      rw [List.length_cons, List.length_flatten, List.map_map]
      show ((insD t).map fun u => (pts n u).length).sum + 1 = _
      omega
    have hp := pts_pos hk
    rw [e, Nat.add_mul, Nat.one_mul]
    show (pts (n + 1 + k) (if t = one then other else withD t ((insD t).map (putD one other n)))).length ≤ _
    split
    · rw [(hsh_le hk (show k ≤ n + 1 + k by omega)).2]
      omega
    · have hl : ((insD t).map (putD one other n)).length = (insD t).length := by simp
      rw [show n + 1 + k = (n + k) + 1 by omega]
      show (withD t ((insD t).map (putD one other n)) :: ((insD (withD t ((insD t).map (putD one other n)))).map (pts (n + k))).flatten).length ≤ _
      rw [ins_with h.1 hl, List.length_cons, List.length_flatten]
      have r : ∀ I : List D, (∀ u ∈ I, hsh n u) → ((((I.map (putD one other n)).map (pts (n + k)))).map List.length).sum ≤ (I.map fun u => (pts n u).length).sum * (pts k other).length := by
        intro I
        induction I with
        | nil => intro _; simp
        | cons u I ih =>
          intro hI
          have a := put_many (one := one) hk (hI u List.mem_cons_self)
          have b := ih fun v hv => hI v (List.mem_cons_of_mem _ hv)
          simp only [List.map_cons, List.sum_cons] at b ⊢
          rw [Nat.add_mul]
          omega
      have r := r _ h.2
      omega
/-! ### zz -/
def zz : D := .tup [.str "of", .str "zz", .tup []]
def zfn : Nat → D → Prop
  | 0, _ => True
  | n + 1, t => (∀ a, t ≠ .tup [.str "of", .str "zz", a]) ∧ ∀ u ∈ insD t, zfn n u
theorem zf_up : ∀ {n : Nat} {t : D}, hsh n t → zfn n t → zfn (n + 1) t
  | 0, _, h, _ => h.elim
  | n + 1, t, h, z => ⟨z.1, fun u hu => zf_up (h.2 u hu) (z.2 u hu)⟩
theorem zf_pts : ∀ {n : Nat} {t : D}, hsh n t → zfn n t → ∀ p ∈ pts n t, hsh n p ∧ zfn n p
  | 0, _, h, _, _, _ => h.elim
  | n + 1, t, h, z, p, hp => by
    rcases List.mem_cons.mp hp with rfl | hp
    · exact ⟨h, z⟩
    · obtain ⟨l, hl, hp⟩ := List.mem_flatten.mp hp
      obtain ⟨u, hu, rfl⟩ := List.mem_map.mp hl
      obtain ⟨a, b⟩ := zf_pts (h.2 u hu) (z.2 u hu) p hp
      exact ⟨(hsh_mono a).1, zf_up a b⟩
theorem put_id {o : D} : ∀ {n : Nat} {t : D}, hsh n t → zfn n t → putD zz o n t = t
  | 0, _, h, _ => h.elim
  | n + 1, t, h, z => by
    show (if t = zz then o else withD t ((insD t).map (putD zz o n))) = t
    rw [if_neg (show ¬ t = zz from z.1 _)]
    have e : (insD t).map (putD zz o n) = insD t := by
      have := List.map_congr_left fun u hu => put_id (o := o) (h.2 u hu) (z.2 u hu)
      rw [this]
      simp
    rw [e, with_self h.1]
theorem with_zz {t : D} {L : List D} (hs : shp t) (z : ∀ a, t ≠ .tup [.str "of", .str "zz", a]) : withD t L ≠ zz := by
  intro e0
  rcases shp_cases hs with ⟨a, as, rfl, e⟩ | ⟨its, b, rfl, e, hi⟩ | ⟨k, as, hk, rfl, e⟩ | ⟨k, as, h1, h2, h3, rfl, e⟩
  · rw [with_of] at e0
    simp only [zz, D.tup.injEq, List.cons.injEq, true_and] at e0
    rw [e0.1] at z
    exact z _ rfl
  · rw [with_sum] at e0
    simp [zz] at e0
  · rw [with_row hk] at e0
    simp [zz] at e0
  · rw [with_flat h1 h2 h3] at e0
    simp only [zz, D.tup.injEq, List.cons.injEq, D.str.injEq] at e0
    exact h1 e0.1
theorem put_back {one : D} : ∀ {n : Nat} {t : D}, hsh n t → zfn n t → putD zz one n (putD one zz n t) = t
  | 0, _, h, _ => h.elim
  | n + 1, t, h, z => by
    show putD zz one (n + 1) (if t = one then zz else withD t ((insD t).map (putD one zz n))) = t
    by_cases c : t = one
    · rw [if_pos c]
      show (if zz = zz then one else _) = t
      rw [if_pos rfl, c]
    · rw [if_neg c]
      have hl : ((insD t).map (putD one zz n)).length = (insD t).length := by simp
      show (if withD t ((insD t).map (putD one zz n)) = zz then one else withD (withD t ((insD t).map (putD one zz n))) ((insD (withD t ((insD t).map (putD one zz n)))).map (putD zz one n))) = t
      rw [if_neg (with_zz h.1 z.1), ins_with h.1 hl, with_with h.1 hl, List.map_map]
      have e : (insD t).map (putD zz one n ∘ putD one zz n) = insD t := by
        have := List.map_congr_left fun u hu => put_back (one := one) (h.2 u hu) (z.2 u hu)
        show (insD t).map (fun u => putD zz one n (putD one zz n u)) = insD t
        rw [this]
        simp
      rw [e, with_self h.1]
theorem zz_hsh {n : Nat} : hsh (n + 1) zz := ⟨⟨"of", _, rfl, fun _ => ⟨_, _, rfl⟩, fun z => absurd z (by decide), fun z => by rcases z with z | z <;> exact absurd z (by decide)⟩, fun u hu => by cases hu⟩
theorem put_hsh {one : D} : ∀ {n : Nat} {t : D}, hsh n t → hsh n (putD one zz n t)
  | 0, _, h => h.elim
  | n + 1, t, h => by
    show hsh (n + 1) (if t = one then zz else withD t ((insD t).map (putD one zz n)))
    split
    · exact zz_hsh
    · have hl : ((insD t).map (putD one zz n)).length = (insD t).length := by simp
      refine ⟨shp_with h.1 hl, fun u hu => ?_⟩
      rw [ins_with h.1 hl] at hu
      obtain ⟨v, hv, rfl⟩ := List.mem_map.mp hu
      exact put_hsh (h.2 v hv)
theorem put_none {one : D} (ho : ∀ n, zfn n one) : ∀ {n : Nat} {t : D}, hsh n t → zfn n t → ∀ q ∈ pts n (putD one zz n t), q ≠ one
  | 0, _, h, _, _, _ => h.elim
  | n + 1, t, h, z, q, hq => by
    have back := put_back (one := one) h z
    have hh := put_hsh (one := one) h
    have e0 : putD one zz (n + 1) t = if t = one then zz else withD t ((insD t).map (putD one zz n)) := rfl
    by_cases c : t = one
    · rw [e0, if_pos c] at hq
      have e : q = zz := by simpa [pts, zz, insD, insL] using hq
      rw [e]
      intro e2
      rw [← e2] at ho
      exact (ho 1).1 _ rfl
    · rw [if_neg c] at e0
      rw [e0] at hq
      have hl : ((insD t).map (putD one zz n)).length = (insD t).length := by simp
      rcases List.mem_cons.mp hq with rfl | hq
      · intro e2
        rw [e0, e2] at back hh
        rw [put_id hh (ho _)] at back
        exact c back.symm
      · rw [ins_with h.1 hl, List.map_map] at hq
        obtain ⟨l, hl, hq⟩ := List.mem_flatten.mp hq
        obtain ⟨u, hu, rfl⟩ := List.mem_map.mp hl
        exact put_none ho (h.2 u hu) (z.2 u hu) q hq
theorem zf_all {n : Nat} {t : D} (h : hsh n t) (z : zfn n t) : ∀ m, zfn m t := by
  have down : ∀ (m : Nat) (t : D), zfn (m + 1) t → zfn m t := by
    intro m
    induction m with
    | zero => intro t _; trivial
    | succ m ih => exact fun t q => ⟨q.1, fun u hu => ih u (q.2 u hu)⟩
  have up : ∀ k, hsh (n + k) t ∧ zfn (n + k) t := by
    intro k
    induction k with
    | zero => exact ⟨h, z⟩
    | succ k ih => exact ⟨(hsh_mono ih.1).1, zf_up ih.1 ih.2⟩
  have dn : ∀ k m, zfn (m + k) t → zfn m t := by
    intro k
    induction k with
    | zero => exact fun m q => q
    | succ k ih => exact fun m q => ih m (down _ t q)
  intro m
  refine dn n m ?_
  have := (up m).2
  rwa [Nat.add_comm] at this
end Py

namespace Py
open PySem PySem.Spec PyProof.Rows L2
/-! ### terms with sorts are good -/
theorem so_head {S : List Dc} {n : Nat} {k : Str} {ts : List D} {s : Str} (h : so S n (.tup (.str k :: ts)) = some s) : k ∈ heads0 := by
  cases n with
  | zero => cases h
  | succ n =>
    by_cases a : k = "of" ∨ k = "sum" ∨ (k = "most" ∨ k = "same") ∨ k = "if" ∨ k ∈ joinK
    · rcases a with rfl | rfl | (rfl | rfl) | rfl | a
      · decide
      · decide
      · decide
      · decide
      · decide
      · simp only [joinK, List.mem_cons, List.not_mem_nil, or_false] at a
        rcases a with rfl | rfl | rfl | rfl | rfl <;> decide
    · simp only [not_or] at a
      obtain ⟨a1, a2, a3, a4, a5⟩ := a
      unfold so at h
      rw [if_neg a1, if_neg a2, if_neg (by simpa using a3), if_neg a4, if_neg a5] at h
      cases h
theorem so_of_inv {S : List Dc} {n : Nat} {a : D} {as : List D} {s : Str} (h : so S n (.tup [.str "of", a, .tup as]) = some s) : ∃ nm dc, a = .str nm ∧ S.find? (fun x => decide (x.1 = nm)) = some dc := by
  cases n with
  | zero => cases h
  | succ n =>
    simp only [so, if_true] at h
    unfold soOf at h
    split at h
    · rename_i nm as' e
      split at h
      · rename_i dc hd
        simp only [List.cons.injEq] at e
        exact ⟨nm, dc, e.1, hd⟩
      · cases h
    · cases h
theorem so_sum_inv {S : List Dc} {n : Nat} {b : D} {its : List D} {s : Str} (h : so S n (.tup [.str "sum", .tup its, b]) = some s) : (∃ j, b = .int j) ∧ ∀ i ∈ its, ∃ f u, i = .tup [.int f, u] := by
  cases n with
  | zero => cases h
  | succ n =>
    simp only [so, show (Str.ofString "sum" = Str.ofString "of") = False from eq_false (by decide), if_false, if_true] at h
    unfold soSum at h
    split at h
    · rename_i its' j e
      simp only [List.cons.injEq, D.tup.injEq] at e
      obtain ⟨e1, e2, _⟩ := e
      subst e1
      refine ⟨⟨j, e2⟩, fun i hi => ?_⟩
      split at h
      · rename_i ha
        have := List.all_eq_true.mp ha i hi
        unfold itOk at this
        split at this
        · exact ⟨_, _, rfl⟩
        · cases this
      · cases h
    · cases h
theorem heads_gd : ∀ k ∈ heads0, k.length ≤ 1000 ∧ k.cps.toList.all okSign = true := by decide +kernel
theorem name_gd {x : Str} (h : okName x = true) : x.length ≤ 1000 ∧ x.cps.toList.all okSign = true := by
  have h1 := name_len h
  unfold okName at h
  simp only [Bool.and_eq_true] at h
  exact ⟨by omega, h.2⟩
theorem zer_gd {n : Nat} {I : List D} : ∀ x ∈ I.map (fun _ => D.int 0), gd (n + 1) x := fun x hx => by
  obtain ⟨_, _, rfl⟩ := List.mem_map.mp hx
  show (0 : Int).natAbs.log2 < 1920
  decide
theorem show_tup {xs : List D} (h : (D.tup xs).pd.showable = true) : ∀ x ∈ xs, x.pd.showable = true := show_mem h
theorem so_tm {S : List Dc} (sS : Sig S) : ∀ {n m : Nat} {t : D} {s : Str}, so S n t = some s → okT m t → t.pd.showable = true → tm n t
  | 0, _, _, _, h, _, _ => by cases h
  | n + 1, m, t, s, h, o, w => by
    have hs := so_shp h
    have oi := okT_ins o hs
    have wi : ∀ u ∈ insD t, u.pd.showable = true := by
      rcases shp_cases hs with ⟨a, as, rfl, e⟩ | ⟨its, b, rfl, e, hi⟩ | ⟨k, as, hk, rfl, e⟩ | ⟨k, as, h1, h2, h3, rfl, e⟩ <;> rw [e]
      · exact show_tup (show_tup w (.tup as) (by simp))
      · intro u hu
        obtain ⟨i, hm, rfl⟩ := List.mem_map.mp hu
        obtain ⟨f, v, rfl⟩ := hi i hm
        exact show_tup (show_tup (show_tup w (.tup its) (by simp)) _ hm) v (by simp)
      · exact show_tup (show_tup w (.tup as) (by simp))
      · exact fun u hu => show_tup w u (List.mem_cons_of_mem _ hu)
    refine ⟨hs, ?_, fun u hu => let ⟨r, hr⟩ := so_ins h u hu; so_tm sS hr (oi.2 u hu) (wi u hu)⟩
    have hl := oi.1
    have hh : headS t ∈ heads0 := by
      obtain ⟨ts, e⟩ := shp_head hs
      rw [e] at h
      exact so_head h
    unfold zer
    rcases shp_cases hs with ⟨a, as, rfl, e⟩ | ⟨its, b, rfl, e, hi⟩ | ⟨k, as, hk, rfl, e⟩ | ⟨k, as, h1, h2, h3, rfl, e⟩ <;> rw [e] at hl ⊢
    · obtain ⟨nm, dc, rfl, hd⟩ := so_of_inv h
      have hn : okName nm = true := by
        have := (okDc_parts (sS.ok _ (List.mem_of_find?_eq_some hd)).1).1
        have e2 : dc.1 = nm := by simpa using List.find?_some hd
        rwa [e2] at this
      rw [with_of]
      refine ⟨by simp, fun x hx => ?_⟩
      simp only [List.mem_cons, List.not_mem_nil, or_false] at hx
      rcases hx with rfl | rfl | rfl
      · exact heads_gd _ (by decide)
      · exact name_gd hn
      · exact ⟨by simpa using hl, zer_gd⟩
    · obtain ⟨⟨j, rfl⟩, hf⟩ := so_sum_inv h
      rw [with_sum]
      refine ⟨by simp, fun x hx => ?_⟩
      simp only [List.mem_cons, List.not_mem_nil, or_false] at hx
      rcases hx with rfl | rfl | rfl
      · exact heads_gd _ (by decide)
      · refine ⟨by rw [List.length_zipWith]; simp at hl ⊢; omega, fun x hx => ?_⟩
        obtain ⟨q, hq, rfl⟩ := List.mem_iff_getElem.mp hx
        rw [List.getElem_zipWith]
        rw [List.length_zipWith] at hq
        have m1 : its[q]'(by omega) ∈ its := List.getElem_mem _
        obtain ⟨f, u, e3⟩ := hf _ m1
        have ws := show_tup (show_tup w (.tup its) (by simp)) _ m1
        rw [e3] at ws ⊢
        rw [List.getElem_map]
        refine ⟨by simp, fun x hx => ?_⟩
        simp only [List.mem_cons, List.not_mem_nil, or_false] at hx
        rcases hx with rfl | rfl
        · exact of_decide_eq_true (p := f.natAbs.log2 < 1920) (show_tup ws (.int f) (by simp))
        · show (0 : Int).natAbs.log2 < 1920
          decide
      · exact of_decide_eq_true (p := j.natAbs.log2 < 1920) (show_tup w (.int j) (by simp))
    · rw [with_row hk]
      refine ⟨by simp, fun x hx => ?_⟩
      simp only [List.mem_cons, List.not_mem_nil, or_false] at hx
      rcases hx with rfl | rfl
      · exact heads_gd _ hh
      · exact ⟨by simpa using hl, zer_gd⟩
    · rw [with_flat h1 h2 h3]
      have lo : (D.str k :: as).length ≤ 1000 := by cases m with | zero => exact o.elim | succ m => exact (show okT (m + 1) _ from o).1
      refine ⟨by simpa using lo, fun x hx => ?_⟩
      rcases List.mem_cons.mp hx with rfl | hx
      · exact heads_gd _ hh
      · exact zer_gd x hx
theorem so_zf {S : List Dc} (hz : S.find? (fun x => decide (x.1 = ("zz" : Str))) = none) : ∀ {n : Nat} {t : D} {s : Str}, so S n t = some s → zfn n t
  | 0, _, _, h => by cases h
  | n + 1, t, s, h => by
    refine ⟨fun a e => ?_, fun u hu => let ⟨r, hr⟩ := so_ins h u hu; so_zf hz hr⟩
    subst e
    have hs := so_shp h
    rcases shp_cases hs with ⟨b, as, e, _⟩ | ⟨its, b, e, _, hi⟩ | ⟨k, as, hk, e, _⟩ | ⟨k, as, h1, h2, h3, e, _⟩
    · simp only [D.tup.injEq, List.cons.injEq] at e
      obtain ⟨_, e1, e2, _⟩ := e
      rw [e2] at h
      obtain ⟨nm, dc, e3, hd⟩ := so_of_inv h
      simp only [D.str.injEq] at e3
      rw [← e3, hz] at hd
      cases hd
    · simp at e
    · simp at e
    · simp only [D.tup.injEq, List.cons.injEq, D.str.injEq] at e
      exact h1 e.1.symm
/-! ### unlike parts -/
def rowS (q : D → List D) (row : List D) (u : D) : List D := row ++ (q u).filter fun o => decide (o ∉ row)
def uq : Nat → D → List D
  | 0, _ => []
  | n + 1, t => (insD t).foldl (rowS (uq n)) [] ++ [t]
theorem foldl_congr {α β : Type} {f g : β → α → β} : ∀ {l : List α} {b : β}, (∀ b a, a ∈ l → f b a = g b a) → l.foldl f b = l.foldl g b
  | [], _, _ => rfl
  | a :: l, b, h => by
    rw [List.foldl_cons, List.foldl_cons, h b a List.mem_cons_self, foldl_congr fun b x hx => h b x (List.mem_cons_of_mem _ hx)]
theorem uq_mono : ∀ {n : Nat} {t : D}, hsh n t → uq (n + 1) t = uq n t
  | 0, _, h => h.elim
  | n + 1, t, h => by
    show (insD t).foldl (rowS (uq (n + 1))) [] ++ [t] = (insD t).foldl (rowS (uq n)) [] ++ [t]
    rw [foldl_congr (g := rowS (uq n)) fun b a ha => by unfold rowS; rw [uq_mono (h.2 a ha)]]
theorem uq_sub {n : Nat} {t : D} (h : hsh n t) : uq n t = (insD t).foldl (rowS (uq n)) [] ++ [t] := by
  rw [← uq_mono h]
  rfl
theorem row_mem {q : D → List D} : ∀ {I row : List D} {x : D}, x ∈ I.foldl (rowS q) row ↔ x ∈ row ∨ ∃ u ∈ I, x ∈ q u
  | [], row, x => by simp
  | u :: I, row, x => by
    rw [List.foldl_cons, row_mem]
    unfold rowS
    simp only [List.mem_append, List.mem_filter, decide_eq_true_eq, List.mem_cons]
    constructor
    · rintro ((h | ⟨h, _⟩) | ⟨v, hv, h⟩)
      · exact .inl h
      · exact .inr ⟨u, .inl rfl, h⟩
      · exact .inr ⟨v, .inr hv, h⟩
    · rintro (h | ⟨v, rfl | hv, h⟩)
      · exact .inl (.inl h)
      · by_cases c : x ∈ row
        · exact .inl (.inl c)
        · exact .inl (.inr ⟨h, c⟩)
      · exact .inr ⟨v, hv, h⟩
theorem row_nodup {q : D → List D} : ∀ {I row : List D}, row.Nodup → (∀ u ∈ I, (q u).Nodup) → (I.foldl (rowS q) row).Nodup
  | [], row, h, _ => h
  | u :: I, row, h, hq => by
    rw [List.foldl_cons]
    refine row_nodup ?_ fun v hv => hq v (List.mem_cons_of_mem _ hv)
    unfold rowS
    refine List.nodup_append.mpr ⟨h, (hq u List.mem_cons_self).filter _, fun a ha b hb e => ?_⟩
    have := (List.mem_filter.mp hb).2
    rw [← e] at this
    exact absurd ha (of_decide_eq_true this)
theorem uq_mem : ∀ {n : Nat} {t : D}, hsh n t → ∀ x, x ∈ uq n t ↔ x ∈ pts n t
  | 0, _, h, _ => h.elim
  | n + 1, t, h, x => by
    show x ∈ (insD t).foldl (rowS (uq n)) [] ++ [t] ↔ x ∈ t :: ((insD t).map (pts n)).flatten
    rw [List.mem_append, row_mem, List.mem_singleton, List.mem_cons, List.mem_flatten]
    constructor
    · rintro ((h0 | ⟨u, hu, hx⟩) | h0)
      · cases h0
      · exact .inr ⟨_, List.mem_map_of_mem hu, (uq_mem (h.2 u hu) x).mp hx⟩
      · exact .inl h0
    · rintro (h0 | ⟨l, hl, hx⟩)
      · exact .inr h0
      · obtain ⟨u, hu, rfl⟩ := List.mem_map.mp hl
        exact .inl (.inr ⟨u, hu, (uq_mem (h.2 u hu) x).mpr hx⟩)
theorem pts_short : ∀ {n : Nat} {t : D}, hsh n t → ∀ u ∈ insD t, ∀ p ∈ pts n u, tlen p < tlen t
  | n, t, h, u, hu, p, hp => by
    have go : ∀ (n : Nat) (u : D), hsh n u → ∀ p ∈ pts n u, tlen p ≤ tlen u := by
      intro n
      induction n with
      | zero => exact fun u h => h.elim
      | succ n ih =>
        intro u h p hp
        rcases List.mem_cons.mp hp with rfl | hp
        · exact Nat.le_refl _
        · obtain ⟨l, hl, hp⟩ := List.mem_flatten.mp hp
          obtain ⟨v, hv, rfl⟩ := List.mem_map.mp hl
          have a := ih v (h.2 v hv) p hp
          have b := ins_len h.1
          have c := sum_le_mem tlen hv
          omega
    have a := go n u ((hsh_sub h).2.1 u hu) p hp
    have b := ins_len (hsh_sub h).1
    have c := sum_le_mem tlen hu
    omega
theorem uq_nodup : ∀ {n : Nat} {t : D}, hsh n t → (uq n t).Nodup
  | 0, _, h => h.elim
  | n + 1, t, h => by
    show ((insD t).foldl (rowS (uq n)) [] ++ [t]).Nodup
    refine List.nodup_append.mpr ⟨row_nodup List.nodup_nil fun u hu => uq_nodup (h.2 u hu), by simp, fun a ha b hb e => ?_⟩
    rw [List.mem_singleton] at hb
    subst hb
    subst e
    rcases row_mem.mp ha with z | ⟨u, hu, hx⟩
    · cases z
    · have hx := (uq_mem (h.2 u hu) a).mp hx
      have := pts_short (hsh_mono h).1 u hu a (by rw [(hsh_le (h.2 u hu) (show n ≤ n + 1 + 1 by omega)).2]; exact hx)
      omega
/-! the walk with a stack -/
def dfs : Nat → List D → D → List D
  | 0, A, _ => A
  | n + 1, A, t => if t ∈ A then A else (insD t).foldl (dfs n) A ++ [t]
theorem dfs_mono : ∀ {n : Nat} {t : D} {A : List D}, hsh n t → dfs (n + 1) A t = dfs n A t
  | 0, _, _, h => h.elim
  | n + 1, t, A, h => by
    show (if t ∈ A then A else (insD t).foldl (dfs (n + 1)) A ++ [t]) = (if t ∈ A then A else (insD t).foldl (dfs n) A ++ [t])
    rw [foldl_congr fun b a ha => dfs_mono (h.2 a ha)]
theorem dfs_sub {n : Nat} {t : D} {A : List D} (h : hsh n t) : dfs n A t = if t ∈ A then A else (insD t).foldl (dfs n) A ++ [t] := by
  rw [← dfs_mono h]
  rfl
/-- with a part all its parts -/
def closed (n : Nat) (A : List D) : Prop := ∀ x ∈ A, ∀ p ∈ pts n x, p ∈ A
theorem filt2 (A R L : List D) : (L.filter fun o => decide (o ∉ A ++ R.filter fun o => decide (o ∉ A))) = ((L.filter fun o => decide (o ∉ R)).filter fun o => decide (o ∉ A)) := by
  rw [List.filter_filter]
  refine List.filter_congr fun x _ => ?_
  by_cases c1 : x ∈ A
  · simp [c1]
  · by_cases c2 : x ∈ R <;> simp [c1, c2]
theorem dfs_row {N n : Nat} (ih : ∀ (u : D) (A : List D), hsh n u → closed N A → dfs n A u = A ++ (uq n u).filter fun o => decide (o ∉ A)) (hc : ∀ (u : D), hsh n u → ∀ x ∈ pts n u, ∀ p ∈ pts N x, p ∈ pts n u) :
    ∀ (I A R : List D), (∀ u ∈ I, hsh n u) → closed N (A ++ R.filter fun o => decide (o ∉ A)) → I.foldl (dfs n) (A ++ R.filter fun o => decide (o ∉ A)) = A ++ (I.foldl (rowS (uq n)) R).filter fun o => decide (o ∉ A)
  | [], A, R, _, _ => rfl
  | u :: I, A, R, hI, cl => by
    have hu := hI u List.mem_cons_self
    rw [List.foldl_cons, List.foldl_cons, ih u _ hu cl, filt2]
    have e : A ++ (R.filter fun o => decide (o ∉ A)) ++ ((uq n u).filter fun o => decide (o ∉ R)).filter (fun o => decide (o ∉ A)) = A ++ (rowS (uq n) R u).filter fun o => decide (o ∉ A) := by
      unfold rowS
      rw [List.filter_append, List.append_assoc]
    rw [e]
    refine dfs_row ih hc I A _ (fun v hv => hI v (List.mem_cons_of_mem _ hv)) ?_
    rw [← e]
    intro x hx p hp
    rw [List.mem_append] at hx ⊢
    rcases hx with hx | hx
    · exact .inl (cl x hx p hp)
    · have hx := (List.mem_filter.mp (List.mem_filter.mp hx).1).1
      have hpu := (uq_mem hu p).mpr (hc u hu x ((uq_mem hu x).mp hx) p hp)
      by_cases c : p ∈ A ++ R.filter fun o => decide (o ∉ A)
      · exact .inl c
      · refine .inr ?_
        rw [← filt2]
        exact List.mem_filter.mpr ⟨hpu, decide_eq_true c⟩
theorem pts_trans : ∀ {n N : Nat} {t : D}, hsh n t → n ≤ N → ∀ x ∈ pts n t, ∀ p ∈ pts N x, p ∈ pts n t
  | 0, _, _, h, _, _, _, _, _ => h.elim
  | n + 1, N, t, h, hN, x, hx, p, hp => by
    rcases List.mem_cons.mp hx with rfl | hx
    · rw [(hsh_le h hN).2] at hp
      exact hp
    · obtain ⟨l, hl, hx⟩ := List.mem_flatten.mp hx
      obtain ⟨u, hu, rfl⟩ := List.mem_map.mp hl
      have := pts_trans (h.2 u hu) (show n ≤ N by omega) x hx p hp
      exact List.mem_cons_of_mem _ (List.mem_flatten.mpr ⟨_, List.mem_map_of_mem hu, this⟩)
theorem dfs_uq {N : Nat} : ∀ (n : Nat), n ≤ N → ∀ (t : D) (A : List D), hsh n t → closed N A → dfs n A t = A ++ (uq n t).filter fun o => decide (o ∉ A)
  | 0, _, _, _, h, _ => h.elim
  | n + 1, hN, t, A, h, cl => by
    show (if t ∈ A then A else (insD t).foldl (dfs n) A ++ [t]) = _
    by_cases c : t ∈ A
    · rw [if_pos c]
      have e : ((uq (n + 1) t).filter fun o => decide (o ∉ A)) = [] := by
        rw [List.filter_eq_nil_iff]
        intro x hx
        have hx := (uq_mem h x).mp hx
        have := cl t c x (by rw [(hsh_le h hN).2]; exact hx)
        simpa using this
      rw [e, List.append_nil]
    · rw [if_neg c]
      have := dfs_row (N := N) (n := n) (fun u A hu cl => dfs_uq n (by omega) u A hu cl) (fun u hu => pts_trans hu (by omega)) (insD t) A [] h.2 (by simpa using cl)
      simp only [List.filter_nil, List.append_nil] at this
      rw [this]
      show _ = A ++ ((insD t).foldl (rowS (uq n)) [] ++ [t]).filter fun o => decide (o ∉ A)
      rw [List.filter_append, List.append_assoc]
      simp [c]
theorem dfs_nil {n : Nat} {t : D} (h : hsh n t) : dfs n [] t = uq n t := by
  rw [dfs_uq (N := n) n (Nat.le_refl _) t [] h (fun x hx => by cases hx)]
  rw [List.nil_append, List.filter_eq_self.mpr fun x _ => by simp]
theorem dfs_new : ∀ (n : Nat) (t : D) (A : List D), hsh n t → ∀ x ∈ dfs n A t, x ∈ A ∨ x ∈ pts n t
  | 0, _, _, h, _, _ => h.elim
  | n + 1, t, A, h, x, hx => by
    have hx : x ∈ (if t ∈ A then A else (insD t).foldl (dfs n) A ++ [t]) := hx
    split at hx
    · exact .inl hx
    · rcases List.mem_append.mp hx with hx | hx
      · have go : ∀ (I A : List D), (∀ u ∈ I, hsh n u) → ∀ x ∈ I.foldl (dfs n) A, x ∈ A ∨ ∃ u ∈ I, x ∈ pts n u := by
          intro I
          induction I with
          | nil => exact fun A _ x hx => .inl hx
          | cons u I ihI =>
            intro A hI x hx
            rw [List.foldl_cons] at hx
            rcases ihI _ (fun v hv => hI v (List.mem_cons_of_mem _ hv)) x hx with hx | ⟨v, hv, hx⟩
            · rcases dfs_new n u A (hI u List.mem_cons_self) x hx with hx | hx
              · exact .inl hx
              · exact .inr ⟨u, List.mem_cons_self, hx⟩
            · exact .inr ⟨v, List.mem_cons_of_mem _ hv, hx⟩
        rcases go (insD t) A h.2 x hx with hx | ⟨u, hu, hx⟩
        · exact .inl hx
        · exact .inr (List.mem_cons_of_mem _ (List.mem_flatten.mpr ⟨_, List.mem_map_of_mem hu, hx⟩))
      · rw [List.mem_singleton] at hx
        exact .inr (by rw [hx]; exact List.mem_cons_self)
theorem dfs_fresh {n : Nat} {t : D} {A : List D} (h : hsh n t) (ht : t ∉ A) : t ∉ (insD t).foldl (dfs n) A := by
  have go : ∀ (I A : List D), (∀ u ∈ I, u ∈ insD t) → t ∉ A → t ∉ I.foldl (dfs n) A := by
    intro I
    induction I with
    | nil => exact fun A _ h => h
    | cons u I ih =>
      intro A hI hA
      rw [List.foldl_cons]
      refine ih _ (fun v hv => hI v (List.mem_cons_of_mem _ hv)) fun z => ?_
      have hu := hI u List.mem_cons_self
      rcases dfs_new n u A ((hsh_sub h).2.1 u hu) t z with z | z
      · exact hA z
      · have := pts_short h u hu t z
        omega
  exact go _ A (fun u hu => hu) ht
/-- what a stack makes of the parts found; true: found at its end -/
def stepF (n : Nat) (A : List D) (i : D × Bool) : List D := if i.2 = true then A ++ [i.1] else dfs n A i.1
def fresh (n : Nat) : List (D × Bool) → List D → Prop
  | [], _ => True
  | (u, true) :: is, A => u ∉ A ∧ fresh n is (A ++ [u])
  | (u, false) :: is, A => fresh n is (dfs n A u)
theorem step_falses {n : Nat} : ∀ (I : List D) (A : List D), (I.map fun u => (u, false)).foldl (stepF n) A = I.foldl (dfs n) A
  | [], A => rfl
  | u :: I, A => by
    rw [List.map_cons, List.foldl_cons, List.foldl_cons, step_falses I]
    rfl
theorem fresh_falses {n : Nat} {is : List (D × Bool)} : ∀ (I : List D) (A : List D), fresh n (I.map (fun u => (u, false)) ++ is) A ↔ fresh n is (I.foldl (dfs n) A)
  | [], A => Iff.rfl
  | u :: I, A => by
    rw [List.map_cons, List.cons_append, List.foldl_cons]
    show fresh n (I.map (fun u => (u, false)) ++ is) (dfs n A u) ↔ _
    exact fresh_falses I _
def cost (n : Nat) (i : D × Bool) : Nat := if i.2 = true then 1 else 2 * (pts n i.1).length
end Py

namespace Py
open PySem PySem.Spec PyProof.Rows L2
/-! ### the program's functions on terms -/
def cTermsIn : CS :=
  (.seq (.asg (.nm 1) (.prim .idx (.acons (.var 0) (.acons (.cst (.int 0)) .anil))))
  (.seq (.ite (.prim .eq (.acons (.var 1) (.acons (.cst (.str "of")) .anil)))
    (.seq (.ret (.prim .idx (.acons (.var 0) (.acons (.cst (.int 2)) .anil))))
    .nil)
    .nil)
  (.seq (.ite (.prim .eq (.acons (.var 1) (.acons (.cst (.str "sum")) .anil)))
    (.seq (.ret (.prim .tuple (.acons (.comp (.tp [2, 3]) (.prim .idx (.acons (.var 0) (.acons (.cst (.int 1)) .anil))) none .anil (.var 3)) .anil)))
    .nil)
    .nil)
  (.seq (.ite (.prim .in_ (.acons (.var 1) (.acons (.tup (.acons (.cst (.str "all")) (.acons (.cst (.str "some")) .anil))) .anil)))
    (.seq (.ret (.prim .idx (.acons (.var 0) (.acons (.cst (.int 1)) .anil))))
    .nil)
    .nil)
  (.seq (.ret (.prim .slLo (.acons (.var 0) (.acons (.cst (.int 1)) .anil))))
  .nil)))))
def cWith : CS :=
  (.seq (.asg (.nm 2) (.prim .idx (.acons (.var 0) (.acons (.cst (.int 0)) .anil))))
  (.seq (.ite (.prim .eq (.acons (.var 2) (.acons (.cst (.str "of")) .anil)))
    (.seq (.ret (.tup (.acons (.cst (.str "of")) (.acons (.prim .idx (.acons (.var 0) (.acons (.cst (.int 1)) .anil))) (.acons (.prim .tuple (.acons (.var 1) .anil)) .anil)))))
    .nil)
    .nil)
  (.seq (.ite (.prim .eq (.acons (.var 2) (.acons (.cst (.str "sum")) .anil)))
    (.seq (.ret (.tup (.acons (.cst (.str "sum")) (.acons (.prim .tuple (.acons (.comp (.nm 3) (.r1 (.prim .len (.acons (.var 1) .anil))) none .anil (.tup (.acons (.prim .idx (.acons (.prim .idx (.acons (.prim .idx (.acons (.var 0) (.acons (.cst (.int 1)) .anil))) (.acons (.var 3) .anil))) (.acons (.cst (.int 0)) .anil))) (.acons (.prim .idx (.acons (.var 1) (.acons (.var 3) .anil))) .anil)))) .anil)) (.acons (.prim .idx (.acons (.var 0) (.acons (.cst (.int 2)) .anil))) .anil)))))
    .nil)
    .nil)
  (.seq (.ite (.prim .in_ (.acons (.var 2) (.acons (.tup (.acons (.cst (.str "all")) (.acons (.cst (.str "some")) .anil))) .anil)))
    (.seq (.ret (.tup (.acons (.var 2) (.acons (.prim .tuple (.acons (.var 1) .anil)) .anil))))
    .nil)
    .nil)
  (.seq (.ret (.prim .add (.acons (.tup (.acons (.var 2) .anil)) (.acons (.prim .tuple (.acons (.var 1) .anil)) .anil))))
  .nil)))))
def cPartsOf (ft : Nat) : CS :=
  (.seq (.asg (.nm 1) (.lst .anil))
  (.seq (.asg (.nm 2) (.lst (.acons (.var 0) .anil)))
  (.seq (.whil (.prim .gt (.acons (.prim .len (.acons (.var 2) .anil)) (.acons (.cst (.int 0)) .anil)))
    (.seq (.asg (.nm 3) (.prim .pop (.acons (.var 2) .anil)))
    (.seq (.expr (.meth .append (.var 1) (.acons (.var 3) .anil)))
    (.seq (.aug 2 .add (.prim .list (.acons (.prim .rev (.acons (.call ft (.acons (.var 3) .anil)) .anil)) .anil)))
    .nil))))
  (.seq (.ret (.prim .tuple (.acons (.var 1) .anil)))
  .nil))))
def cKeyOf : CS :=
  (.seq (.ret (.prim .repr (.acons (.var 0) .anil)))
  .nil)
def cUnlike (ft fk : Nat) : CS :=
  (.seq (.asg (.nm 1) (.prim .dnew .anil))
  (.seq (.asg (.nm 2) (.lst (.acons (.tup (.acons (.var 0) (.acons (.cst (.bl false)) .anil))) .anil)))
  (.seq (.whil (.prim .gt (.acons (.prim .len (.acons (.var 2) .anil)) (.acons (.cst (.int 0)) .anil)))
    (.seq (.asg (.tp [3, 4]) (.prim .pop (.acons (.var 2) .anil)))
    (.seq (.ite (.var 4)
      (.seq (.setIdx (.var 1) (.call fk (.acons (.var 3) .anil)) (.var 3))
      .nil)
      (.seq (.ite (.prim .dnotin (.acons (.call fk (.acons (.var 3) .anil)) (.acons (.var 1) .anil)))
        (.seq (.expr (.meth .append (.var 2) (.acons (.tup (.acons (.var 3) (.acons (.cst (.bl true)) .anil))) .anil)))
        (.seq (.aug 2 .add (.comp (.nm 5) (.prim .rev (.acons (.call ft (.acons (.var 3) .anil)) .anil)) none .anil (.tup (.acons (.var 5) (.acons (.cst (.bl false)) .anil)))))
        .nil))
        .nil)
      .nil))
    .nil)))
  (.seq (.ret (.prim .tuple (.acons (.dvals 1 6) .anil)))
  .nil))))
def cSizeOf (fp : Nat) : CS :=
  (.seq (.ret (.prim .len (.acons (.call fp (.acons (.var 0) .anil)) .anil)))
  .nil)
def cDepthOf (ft : Nat) : CS :=
  (.seq (.asg (.nm 1) (.cst (.int 0)))
  (.seq (.asg (.nm 2) (.lst (.acons (.var 0) .anil)))
  (.seq (.whil (.prim .gt (.acons (.prim .len (.acons (.var 2) .anil)) (.acons (.cst (.int 0)) .anil)))
    (.seq (.aug 1 .add (.cst (.int 1)))
    (.seq (.asg (.nm 2) (.comp2 (.nm 3) (.var 2) (.nm 4) (.call ft (.acons (.var 3) .anil)) (.var 4)))
    .nil)))
  (.seq (.ret (.var 1))
  .nil))))
def cNamesIn (fp : Nat) : CS :=
  (.seq (.ret (.prim .tuple (.acons (.prim .sortedSet (.acons (.comp (.nm 1) (.call fp (.acons (.var 0) .anil)) (some ()) (.prim .eq (.acons (.prim .idx (.acons (.var 1) (.acons (.cst (.int 0)) .anil))) (.acons (.cst (.str "of")) .anil))) (.prim .idx (.acons (.var 1) (.acons (.cst (.int 1)) .anil)))) .anil)) .anil)))
  .nil)
def cPutFor (ft fw fs : Nat) : CS :=
  (.seq (.ite (.prim .eq (.acons (.var 0) (.acons (.var 1) .anil)))
    (.seq (.ret (.var 2))
    .nil)
    .nil)
  (.seq (.ret (.call fw (.acons (.var 0) (.acons (.comp (.nm 3) (.call ft (.acons (.var 0) .anil)) none .anil (.call fs (.acons (.var 3) (.acons (.var 1) (.acons (.var 2) .anil))))) .anil))))
  .nil))
section
variable {ex : XD} {gl : List (Str × D)} {F : List FD} {f ft fw fk fp fs d : Nat} {x1 x2 x3 x4 x5 x6 x7 x8 y1 y2 y3 y4 y5 y6 z1 z2 z3 z4 z5 z6 w1 w2 w3 w4 w5 w6 v1 v2 v3 v4 v5 v6 v7 v8 : Str} {st st2 st3 st4 : Stmt} {h : Hd} {Q : PD}
theorem gd_ok {n : Nat} {x : D} (g : gd n x) : okT n x := (gd_fine g).1
theorem m_gd {n : Nat} {x : D} {h : Hd} {Q : PD} (g : gd n x) : mat x h Q = Q x h := m_okT (gd_ok g)
theorem x_eqG {n m : Nat} {x y : D} {h : Hd} {Q : PD} (gx : gd n x) (gy : gd m y) (hn : n ≤ 60) (hm : m ≤ 60) (hx : ∃ xs, x = .tup xs) (hy : ∃ ys, y = .tup ys) : px .eq [x, y] h Q = Q (.bl (decide (x = y))) h := by
  obtain ⟨xs, rfl⟩ := hx
  obtain ⟨ys, rfl⟩ := hy
  rw [x_eqD (okT_data (gd_ok gx)) (okT_data (gd_ok gy)) (gd_fine gx).2.2 (gd_fine gy).2.2 hn hm, eqv_dec gx gy]
theorem x_neG {n m : Nat} {x y : D} {h : Hd} {Q : PD} (gx : gd n x) (gy : gd m y) (hn : n ≤ 60) (hm : m ≤ 60) (hx : ∃ xs, x = .tup xs) (hy : ∃ ys, y = .tup ys) : px .ne [x, y] h Q = Q (.bl (!decide (x = y))) h := by
  obtain ⟨xs, rfl⟩ := hx
  obtain ⟨ys, rfl⟩ := hy
  rw [x_neD (okT_data (gd_ok gx)) (okT_data (gd_ok gy)) (gd_fine gx).2.2 (gd_fine gy).2.2 hn hm, eqv_dec gx gy]
theorem tm_tup {n : Nat} {t : D} (h : tm n t) : ∃ xs, t = .tup xs := by
  obtain ⟨k, ts, rfl, _⟩ := (tm_sub h).1
  exact ⟨_, rfl⟩
theorem terms_in_spec {n : Nat} {t : D} (hf : F[f]? = some ⟨x1, [x2], [x3, x4, x5, x6], st, cTermsIn⟩) (o : okT n t) (hs : shp t) (q : Q (.tup (insD t)) h) : wpCall gl F (d+1) f [t] h Q ex := by
  have hz : sizeLine > 2000000 := by decide
  obtain ⟨k, ts, rfl, c1, c2, c3⟩ := hs
  have q : Q (.tup (insL k ts)) h := q
  unfold insL at q
  refine call_of hf rfl ?_
  simp [startD, cTermsIn]
  refine nxt_of ?_
  simp
  by_cases e1 : k = "of"
  · rw [if_pos e1] at q ⊢
    obtain ⟨a, as, rfl⟩ := c1 e1
    refine nxt_of ?_
    simp
    exact gc_same q
  · rw [if_neg e1] at q ⊢
    refine nxt_of ?_
    simp
    by_cases e2 : k = "sum"
    · rw [if_pos e2] at q ⊢
      obtain ⟨its, b, rfl, hi⟩ := c2 e2
      obtain ⟨l1, o1⟩ := okT_sub o
      obtain ⟨l2, o2⟩ := okT_sub (o1 (.tup its) (by simp))
      refine nxt_of ?_
      simp
      have em : its = its.map id := by simp
      rw [em]
      refine comp_on id part2 (by omega) trivial (fun x hx k st => ?_) ?_
      · obtain ⟨f, u, rfl⟩ := hi x hx
        have ou := (okT_sub (o2 _ hx)).2 u (by simp)
        simp
        rw [m_okT ou]
        exact st
      · exact gc_same q
    · rw [if_neg e2] at q ⊢
      refine nxt_of ?_
      simp
      refine ⟨by omega, ?_⟩
      rw [x_inS (ns := ["all", "some"]) rfl]
      simp
      by_cases e3 : k = "all" ∨ k = "some"
      · rw [if_pos e3] at q ⊢
        obtain ⟨as, rfl⟩ := c3 e3
        refine nxt_of ?_
        simp
        exact gc_same q
      · rw [if_neg e3] at q ⊢
        refine nxt_of ?_
        have cd : cutD (D.str k :: ts) (some 1) none = ts := cut_drop (n := 1)
        simp [cd]
        exact gc_same q
theorem cl_okT {m n : Nat} : ∀ fs : List D, (∀ u ∈ fs, okT m u) → D.cleans n fs
  | [], _ => trivial
  | a :: fs, z => by simp only [D.cleans]; exact ⟨data_clean m a (okT_data (z a List.mem_cons_self)), cl_okT fs fun u hu => z u (List.mem_cons_of_mem _ hu)⟩
def PW (h : Hd) (t : D) (n m k : Nat) (τ : Sd) (h' : Hd) : Prop := ∃ (fs ls : List D) (t3 : Option D), h' = h ++ [.lst fs, .lst ls] ∧ τ = [some t, some (.loc h.length), some (.loc (h.length + 1)), t3] ∧ k = ((ls.reverse.map (pts n)).flatten).length ∧ fs ++ (ls.reverse.map (pts n)).flatten = pts n t ∧ (∀ u ∈ ls, hsh n u ∧ okT m u) ∧ ∀ u ∈ fs, okT m u
theorem parts_of_spec {n m : Nat} {t : D} (hf : F[f]? = some ⟨y1, [y2], [y3, y4, y5, y6], st2, cPartsOf ft⟩) (ht : F[ft]? = some ⟨x1, [x2], [x3, x4, x5, x6], st, cTermsIn⟩) (o : okT m t) (hs : hsh n t) (hl : (pts n t).length < 100000) (q : Q (.tup (pts n t)) h) : wpCall gl F (d+2) f [t] h Q ex := by
  have hz : sizeLine > 16000000 := by decide
  refine call_of hf rfl ?_
  simp [startD, cPartsOf]
  refine nxt_of ?_
  simp
  rw [m_okT o]
  simp
  refine ⟨by omega, nxt_of ?_⟩
  simp
  refine while_inv (PW h t n m)
    (m := (pts n t).length) ⟨[], [t], _, rfl, rfl, by simp, by simp, fun u hu => by simp at hu; subst hu; exact ⟨hs, o⟩, fun u hu => by cases hu⟩ ?_
  rintro k τ h' ⟨fs, ls, t3, rfl, rfl, hk, hfe, hls, hfs⟩
  simp
  rcases List.eq_nil_or_concat ls with rfl | ⟨ls, u, hc⟩
  · simp
    simp at hfe
    subst hfe
    refine nxt_of ?_
    simp
    refine gc_app ?_ q
    simp only [D.clean]
    exact cl_okT _ hfs
  · rw [List.concat_eq_append] at hc
    subst hc
    have hu := hls u (by simp)
    obtain ⟨s1, s2, s3⟩ := hsh_sub hu.1
    obtain ⟨li, oi⟩ := okT_ins hu.2 s1
    have hb := congrArg List.length hfe
    rw [List.length_append] at hb
    have hll : ls.length ≤ 100000 := by
      have a := flat_len (n := n) (ls := (ls ++ [u]).reverse) fun v hv => (hls v (List.mem_reverse.mp hv)).1
      rw [List.length_reverse, List.length_append] at a
      omega
    have hex : (((ls ++ [u]).reverse.map (pts n)).flatten).length = 1 + (((ls ++ (insD u).reverse).reverse.map (pts n)).flatten).length := by
      simp [s3]
      omega
    rw [if_pos (by simp)]
    simp
    rw [m_okT hu.2]
    refine nxt_of ?_
    simp
    rw [m_okT hu.2]
    simp
    refine ⟨by omega, nxt_of ?_⟩
    simp
    rw [m_okT hu.2]
    refine terms_in_spec ht hu.2 s1 ?_
    simp
    refine ⟨by omega, (((ls ++ (insD u).reverse).reverse.map (pts n)).flatten).length, ?_, fs ++ [u], ls ++ (insD u).reverse, some u, rfl, rfl, rfl, ?_, fun v hv => ?_, fun v hv => ?_⟩
    · rw [hk, hex]; omega
    · rw [← hfe]
      simp [s3]
    · rcases List.mem_append.mp hv with hv | hv
      · exact hls v (by simp [hv])
      · rw [List.mem_reverse] at hv
        exact ⟨s2 v hv, oi v hv⟩
    · rcases List.mem_append.mp hv with hv | hv
      · exact hfs v hv
      · simp at hv; subst hv; exact hu.2

theorem x_head {t : D} (hs : shp t) : px .idx [t, .int 0] h Q = Q (.str (headS t)) h := by
  obtain ⟨k, ts, rfl, _⟩ := hs
  simp
  rfl
theorem with_spec {n a : Nat} {t : D} {L : List D} (hf : F[f]? = some ⟨x1, [x2, x3], [x4, x5, x6, x7], st, cWith⟩) (hs : shp t) (g : gd (n + 3) t) (ha : h[a]? = some (.lst L)) (hl : L.length = (insD t).length) (gL : ∀ u ∈ L, gd n u) (q : Q (withD t L) h) : wpCall gl F (d+1) f [t, .loc a] h Q ex := by
  have hz : sizeLine > 16000000 := by decide
  have hl1 := (gd_ins hs g).1
  have hh := fun (K : PD) => x_head (h := h) (Q := K) hs
  refine call_of hf rfl ?_
  simp [startD, cWith]
  rw [hh]
  simp
  refine nxt_of ?_
  simp
  rcases shp_cases hs with ⟨b, as, rfl, e⟩ | ⟨its, b, rfl, e, hi⟩ | ⟨k, as, hk, rfl, e⟩ | ⟨k, as, h1, h2, h3, rfl, e⟩
  · rw [show headS (.tup [.str "of", b, .tup as]) = ("of" : Str) from rfl, if_pos rfl]
    refine nxt_of ?_
    simp [ha]
    rw [m_gd (g.2 b (by simp))]
    simp [ha]
    refine ⟨by omega, ?_⟩
    exact gc_same q
  · rw [show headS (.tup [.str "sum", .tup its, b]) = ("sum" : Str) from rfl, if_neg (by decide)]
    refine nxt_of ?_
    simp
    refine nxt_of ?_
    rw [e, List.length_map] at hl hl1
    simp [ha]
    have gi := g.2 (.tup its) (by simp)
    have gb := g.2 b (by simp)
    rw [with_sum] at q
    refine ⟨by omega, ?_⟩
    rw [rangeD_map]
    have zl : (List.zipWith itW its L).length = L.length := by rw [List.length_zipWith]; omega
    refine comp_on (fun j : Nat => D.int (0 + (j : Int))) (fun j : Nat => (List.zipWith itW its L).getD j .non) (by simp; omega) trivial (fun j hj k st => ?_) ?_
    · rw [List.mem_range] at hj
      have hj2 : j < its.length := by omega
      obtain ⟨f, u, e⟩ := hi its[j] (List.getElem_mem _)
      have ez : (List.zipWith itW its L).getD j .non = .tup [f, L[j]] := by
        rw [List.getD, List.getElem?_eq_getElem (by rw [zl]; exact hj)]
        simp only [Option.getD_some, List.getElem_zipWith, e, itW]
      rw [ez] at st
      have a1 : atI its (j : Int) = some (.tup [f, u]) := by
        unfold atI
        rw [ixN_nat hj2, ← e]
        exact List.getElem?_eq_getElem hj2
      have a2 : atI L (j : Int) = some L[j] := by
        unfold atI
        rw [ixN_nat hj]
        exact List.getElem?_eq_getElem hj
      have gj := gL _ (List.getElem_mem hj)
      have gu := gi.2 _ (List.getElem_mem hj2)
      rw [e] at gu
      have gf := gu.2 f (by simp)
      simp [a1]
      rw [m_gd gf]
      simp [ha, a2]
      rw [m_gd gj]
      exact ⟨by omega, st⟩
    · have er : (List.range L.length).map (fun j : Nat => (List.zipWith itW its L).getD j .non) = List.zipWith itW its L := by
        apply List.ext_getElem
        · simp [zl]
        · intro j h1 h2
          rw [List.getElem_map, List.getElem_range, List.getD, List.getElem?_eq_getElem h2]
          rfl
      rw [er]
      rw [m_gd gb]
      exact ⟨by omega, gc_same q⟩
  · have hk1 : k ≠ "of" := by rcases hk with rfl | rfl <;> decide
    have hk2 : k ≠ "sum" := by rcases hk with rfl | rfl <;> decide
    rw [show headS (.tup [.str k, .tup as]) = k from rfl, if_neg hk1]
    refine nxt_of ?_
    simp
    rw [if_neg hk2]
    refine nxt_of ?_
    simp
    refine ⟨by omega, ?_⟩
    rw [x_inS (ns := ["all", "some"]) rfl]
    simp
    rw [if_pos hk]
    rw [with_row hk] at q
    refine nxt_of ?_
    simp [ha]
    exact ⟨by omega, gc_same q⟩
  · rw [show headS (.tup (.str k :: as)) = k from rfl, if_neg h1]
    refine nxt_of ?_
    simp
    rw [if_neg h2]
    refine nxt_of ?_
    simp
    refine ⟨by omega, ?_⟩
    rw [x_inS (ns := ["all", "some"]) rfl]
    simp
    rw [if_neg h3]
    rw [with_flat h1 h2 h3] at q
    refine nxt_of ?_
    simp [ha]
    refine ⟨by omega, by omega, gc_same q⟩
theorem key_spec {n : Nat} {t : D} (hf : F[f]? = some ⟨x1, [x2], [x3], st, cKeyOf⟩) (g : tm n t) (hn : 3 * n + 1 ≤ 60) (hl : tlen t ≤ 16000000) (q : Q (.str t.pd.shown) h) : wpCall gl F (d+1) f [t] h Q ex := by
  obtain ⟨xs, rfl⟩ := tm_tup g
  refine call_of hf rfl ?_
  simp [startD, cKeyOf]
  refine fine_repr (gd_fine (tm_gd g)) hn hl ?_
  exact gc_same q
theorem size_spec {n m : Nat} {t : D} (hf : F[f]? = some ⟨z1, [z2], [z3], st3, cSizeOf fp⟩) (hp : F[fp]? = some ⟨y1, [y2], [y3, y4, y5, y6], st2, cPartsOf ft⟩) (ht : F[ft]? = some ⟨x1, [x2], [x3, x4, x5, x6], st, cTermsIn⟩) (o : okT m t) (hs : hsh n t) (hl : (pts n t).length < 100000)
    (q : Q (.int (pts n t).length) h) : wpCall gl F (d+3) f [t] h Q ex := by
  refine call_of hf rfl ?_
  simp [startD, cSizeOf]
  rw [m_okT o]
  refine parts_of_spec hp ht o hs hl ?_
  simp
  exact gc_same q
/-! sorted texts -/
theorem str_ext {a b : Str} (h : a.cps.toList = b.cps.toList) : a = b := by
  cases a
  cases b
  simp only [Str.mk.injEq]
  exact Array.toList_inj.mp h
theorem rising_pw : ∀ (p : Str) (l : List Str), risingS p l = true → (p :: l).Pairwise fun a b => a.cps.toList ≤ b.cps.toList
  | p, [], _ => List.pairwise_singleton _ _
  | p, x :: r, h => by
    have h : (!ltCps x.cps.toList p.cps.toList && risingS x r) = true := h
    rw [Bool.and_eq_true] at h
    have ih := rising_pw x r h.2
    have h1 : p.cps.toList ≤ x.cps.toList := by
      have := h.1
      rw [ltCps_eq] at this
      have : ¬ x.cps.toList < p.cps.toList := by simpa using this
      exact this
    refine List.pairwise_cons.mpr ⟨fun y hy => ?_, ih⟩
    rcases List.mem_cons.mp hy with rfl | hy
    · exact h1
    · exact List.le_trans h1 ((List.pairwise_cons.mp ih).1 y hy)
theorem sorted_pw {l : List Str} (h : sortedS l = true) : l.Pairwise fun a b => a.cps.toList ≤ b.cps.toList := by
  cases l with
  | nil => exact List.Pairwise.nil
  | cons x r => exact rising_pw x r h
theorem sorted_one {us vs : List Str} (hu : sortedS us = true) (hv : sortedS vs = true) (nu : us.Nodup) (nv : vs.Nodup) (hm : ∀ k, k ∈ us ↔ k ∈ vs) : us = vs := by
  have p : us.Perm vs := by
    have := (List.perm_ext_iff_of_nodup nu nv).mpr hm
    exact this
  exact List.Perm.eq_of_pairwise (fun a b _ _ h1 h2 => str_ext (List.le_antisymm h1 h2)) (sorted_pw hu) (sorted_pw hv) p
theorem txts_str : ∀ ss : List Str, txtsOf (ss.map D.str) = some ss
  | [] => rfl
  | s :: ss => by simp only [List.map_cons, txtsOf, txts_str ss]
theorem x_sortedTx {ss : List Str} {h : Hd} {Q : PD} (hl : ss.length < 4000) (q : ∀ us : List Str, sortedS us = true → us.Nodup → (∀ k, k ∈ us ↔ k ∈ ss) → Q (.tl (us.map D.str)) h) : px .sortedSet [.tl (ss.map D.str)] h Q := by
  simp only [px_eq, wpP, sortedSetW]
  cases ss with
  | nil =>
    show (0 < 64 ∧ ∀ us : List Int, us.Pairwise (· < ·) → (∀ k, k ∈ us ↔ k ∈ []) → Q (.tl (us.map D.int)) h)
    refine ⟨by omega, fun us _ hm => ?_⟩
    have : us = [] := List.eq_nil_iff_forall_not_mem.mpr fun x hx => by have := (hm x).mp hx; cases this
    subst this
    exact q [] rfl List.nodup_nil fun k => Iff.rfl
  | cons s ss =>
    have e : intsSq h (.tl ((s :: ss).map D.str)) = none := rfl
    have e2 : txtsAt h (.tl ((s :: ss).map D.str)) = some (s :: ss) := by
      show txtsOf ((s :: ss).map D.str) = _
      exact txts_str _
    rw [e, e2]
    exact ⟨hl, q⟩
def nameD : D → Str
  | .tup (_ :: .str x :: _) => x
  | _ => ""
/-- names of applications are texts -/
def named (n : Nat) (t : D) : Prop := ∀ p ∈ pts n t, headS p = "of" → ∃ x as, p = .tup [.str "of", .str x, as]
theorem names_spec {n : Nat} {t : D} (hf : F[f]? = some ⟨z1, [z2], [z3, z4], st3, cNamesIn fp⟩) (hp : F[fp]? = some ⟨y1, [y2], [y3, y4, y5, y6], st2, cPartsOf ft⟩) (ht : F[ft]? = some ⟨x1, [x2], [x3, x4, x5, x6], st, cTermsIn⟩) (g : tm n t) (hN : named n t) (hl : (pts n t).length < 4000)
    (q : ∀ us : List Str, sortedS us = true → us.Nodup → (∀ k, k ∈ us ↔ k ∈ ((pts n t).filter fun p => decide (headS p = "of")).map nameD) → Q (.tup (us.map D.str)) h) : wpCall gl F (d+3) f [t] h Q ex := by
  have hz : sizeLine > 16000000 := by decide
  refine call_of hf rfl ?_
  simp [startD, cNamesIn]
  rw [m_gd (tm_gd g)]
  refine parts_of_spec hp ht (gd_ok (tm_gd g)) (tm_hsh g) (by omega) ?_
  simp
  rw [show pts n t = (pts n t).map id by simp]
  refine comp_onf id (fun p => D.str (nameD p)) (fun p => decide (headS p = "of")) (by omega) trivial (fun p hp k s st => ?_) ?_
  · have gp := tm_pts g p hp
    simp
    rw [x_head (tm_sub gp).1]
    simp
    by_cases c : headS p = "of"
    · rw [if_pos c]
      rw [if_pos (by simpa using c)] at st
      obtain ⟨x, as, rfl⟩ := hN p hp c
      simp
      exact st
    · rw [if_neg c]
      rw [if_neg (by simpa using c)] at st
      exact st
  · rw [show (List.map (fun p => D.str (nameD p)) (List.filter (fun p => decide (headS p = "of")) (pts n t))) = (((pts n t).filter fun p => decide (headS p = "of")).map nameD).map D.str by rw [List.map_map]; rfl]
    refine x_sortedTx (by rw [List.length_map]; have := List.length_filter_le (fun p => decide (headS p = "of")) (pts n t); omega) fun us h1 h2 h3 => ?_
    simp
    exact gc_same (q us h1 h2 h3)
/-! depth_of -/
def mxl (n : Nat) (L : List D) : Int := (L.map (dpn n)).foldl max 0
theorem dpn_pos {n : Nat} {t : D} (h : hsh n t) : 1 ≤ dpn n t := by
  rw [dpn_sub h]
  have := (mx_ge ((insD t).map (dpn n)) 0).1
  omega
theorem mx_shift : ∀ (l : List Int) (m c : Int), 0 ≤ m → (∀ x ∈ l, 0 ≤ x) → l.foldl max (max m c) = max c (l.foldl max m)
  | [], m, c, _, _ => by simp only [List.foldl_nil]; omega
  | a :: l, m, c, hm, hl => by
    rw [List.foldl_cons, List.foldl_cons, show max (max m c) a = max (max m a) c by omega]
    exact mx_shift l (max m a) c (by omega) fun x hx => hl x (List.mem_cons_of_mem _ hx)
theorem mx_flat (n : Nat) : ∀ (L : List D) (m : Int), 0 ≤ m → (∀ u ∈ L, hsh n u) → L ≠ [] → (L.map (dpn n)).foldl max 0 = 1 + (((L.map insD).flatten).map (dpn n)).foldl max 0
  | [], _, _, _, h => absurd rfl h
  | [u], m, _, hL, _ => by
    have hu := hL u List.mem_cons_self
    simp only [List.map_cons, List.map_nil, List.flatten_cons, List.flatten_nil, List.append_nil, List.foldl_cons, List.foldl_nil]
    rw [← dpn_sub hu]
    have := dpn_pos hu
    omega
  | u :: v :: r, m, hm, hL, _ => by
    have hu := hL u List.mem_cons_self
    have ih := mx_flat n (v :: r) m hm (fun w hw => hL w (List.mem_cons_of_mem _ hw)) (by simp)
    have pos : ∀ x ∈ ((v :: r).map (dpn n)), 0 ≤ x := fun x hx => by
      obtain ⟨w, hw, rfl⟩ := List.mem_map.mp hx
      have := dpn_pos (hL w (List.mem_cons_of_mem _ hw))
      omega
    have posI : ∀ (w : D), hsh n w → ∀ x ∈ (insD w).map (dpn n), 0 ≤ x := fun w hw x hx => by
      obtain ⟨y, hy, rfl⟩ := List.mem_map.mp hx
      have := dpn_pos ((hsh_sub hw).2.1 y hy)
      omega
    have posF : ∀ x ∈ (((v :: r).map insD).flatten).map (dpn n), 0 ≤ x := fun x hx => by
      obtain ⟨y, hy, rfl⟩ := List.mem_map.mp hx
      obtain ⟨l, hl, hy⟩ := List.mem_flatten.mp hy
      obtain ⟨w, hw, rfl⟩ := List.mem_map.mp hl
      exact posI w (hL w (List.mem_cons_of_mem _ hw)) _ (List.mem_map_of_mem hy)
    rw [show (u :: v :: r).map (dpn n) = dpn n u :: (v :: r).map (dpn n) from rfl, List.foldl_cons, show ((u :: v :: r).map insD).flatten = insD u ++ ((v :: r).map insD).flatten from rfl, List.map_append, List.foldl_append]
    rw [mx_shift _ 0 (dpn n u) (by omega) pos, ih]
    have e := dpn_sub hu
    have h0 := (mx_ge ((insD u).map (dpn n)) 0).1
    generalize ((insD u).map (dpn n)).foldl max 0 = A at e h0 ⊢
    rw [show A = max 0 A by omega, mx_shift _ 0 A (by omega) posF]
    omega
theorem in2_on {α : Type} {ok : Hd → Prop} {a : Nat} {p2 : Pat} {elt : TEd} {τ : Sd} {Q : Hd → Prop} (f g : α → D) : ∀ (as : List α) (acc : List D) (h : Hd), h[a]? = some (.lst acc) → acc.length + as.length ≤ sizeLine → (∀ acc, ok (h.set a (.lst acc))) →
    (∀ x ∈ as, ∀ (acc : List D) (k : D → Hd → Prop), k (g x) (h.set a (.lst acc)) → bindW p2 (f x) τ fun τ' => elt τ' (h.set a (.lst acc)) fun y h2 => mat y h2 k) → Q (h.set a (.lst (acc ++ as.map g))) → in2W ok a p2 elt τ Q (as.map f) h
  | [], acc, h, ha, _, hok, _, q => by
    have e : h.set a (.lst acc) = h := by
      apply List.ext_getElem?
      intro i
      by_cases c : a = i
      · subst c
        rw [List.getElem?_set_self (List.getElem?_eq_some_iff.mp ha).1, ha]
      · rw [List.getElem?_set_ne c]
    have h1 := hok acc
    rw [e] at h1
    simp only [List.map_nil, List.append_nil] at q
    rw [e] at q
    exact ⟨h1, q⟩
  | x :: as, acc, h, ha, hl, hok, step, q => by
    have e : h.set a (.lst acc) = h := by
      apply List.ext_getElem?
      intro i
      by_cases c : a = i
      · subst c
        rw [List.getElem?_set_self (List.getElem?_eq_some_iff.mp ha).1, ha]
      · rw [List.getElem?_set_ne c]
    have hla := (List.getElem?_eq_some_iff.mp ha).1
    rw [List.map_cons]
    refine ⟨by have := hok acc; rwa [e] at this, ?_⟩
    have s := step x List.mem_cons_self acc (fun z' h2 => appendW (.loc a) z' h2 fun _ h3 => in2W ok a p2 elt τ Q (as.map f) h3)
    rw [e] at s
    refine s ?_
    show appendW (.loc a) (g x) h fun _ h3 => in2W ok a p2 elt τ Q (as.map f) h3
    simp only [appendW, ha]
    rw [List.length_cons] at hl
    refine ⟨by omega, ?_⟩
    refine in2_on f g as (acc ++ [g x]) _ (List.getElem?_set_self hla) (by simp; omega) (fun acc' => by rw [List.set_set]; exact hok acc') (fun y hy acc' k hk => ?_) ?_
    · rw [List.set_set] at hk ⊢
      exact step y (List.mem_cons_of_mem _ hy) acc' k hk
    · rw [List.set_set, List.append_assoc]
      simpa using q
theorem comp2_on {ok : Hd → Prop} {a : Nat} {p p2 : Pat} {it2 : TId} {elt : TEd} {τ : Sd} {Q : PD} {B : Nat} (G : D → List D) : ∀ (xs acc : List D) (h : Hd), h[a]? = some (.lst acc) → acc.length + ((xs.map G).flatten).length ≤ B → (∀ acc, ok (h.set a (.lst acc))) →
    (∀ x ∈ xs, ∀ (acc : List D) (R : Hd → Prop), acc.length + (G x).length ≤ B → R (h.set a (.lst (acc ++ G x))) → bindW p x τ fun τ' => it2 τ' (h.set a (.lst acc)) fun w1 h1 => in2W w1.ok a p2 elt (wipeD τ' p2.ix) R w1.xs h1) → Q (.loc a) (h.set a (.lst (acc ++ (xs.map G).flatten))) → comp2W ok a p it2 p2 elt τ Q xs h
  | [], acc, h, ha, _, hok, _, q => by
    have e : h.set a (.lst acc) = h := by
      apply List.ext_getElem?
      intro i
      by_cases c : a = i
      · subst c
        rw [List.getElem?_set_self (List.getElem?_eq_some_iff.mp ha).1, ha]
      · rw [List.getElem?_set_ne c]
    have h1 := hok acc
    rw [e] at h1
    simp only [List.map_nil, List.flatten_nil, List.append_nil] at q
    rw [e] at q
    exact ⟨h1, q⟩
  | x :: xs, acc, h, ha, hB, hok, step, q => by
    rw [List.map_cons, List.flatten_cons, List.length_append] at hB
    have e : h.set a (.lst acc) = h := by
      apply List.ext_getElem?
      intro i
      by_cases c : a = i
      · subst c
        rw [List.getElem?_set_self (List.getElem?_eq_some_iff.mp ha).1, ha]
      · rw [List.getElem?_set_ne c]
    have hla := (List.getElem?_eq_some_iff.mp ha).1
    refine ⟨by have := hok acc; rwa [e] at this, ?_⟩
    have s := step x List.mem_cons_self acc (fun h2 => comp2W ok a p it2 p2 elt τ Q xs h2)
    rw [e] at s
    refine s (by omega) ?_
    refine comp2_on (B := B) G xs (acc ++ G x) _ (List.getElem?_set_self hla) (by rw [List.length_append]; omega) (fun acc' => by rw [List.set_set]; exact hok acc') (fun y hy acc' R hb hR => ?_) ?_
    · rw [List.set_set] at hR ⊢
      exact step y (List.mem_cons_of_mem _ hy) acc' R hb hR
    · rw [List.set_set, List.append_assoc]
      simpa using q
end
end Py

namespace Py
open PySem PySem.Spec PyProof.Rows L2
section
variable {ex : XD} {gl : List (Str × D)} {F : List FD} {f ft fw fk fp fs d : Nat} {x1 x2 x3 x4 x5 x6 x7 x8 y1 y2 y3 y4 y5 y6 z1 z2 z3 z4 z5 z6 w1 w2 w3 w4 w5 w6 v1 v2 v3 v4 v5 v6 v7 v8 : Str} {st st2 st3 st4 : Stmt} {h : Hd} {Q : PD}
def DW (h : Hd) (t : D) (n K : Nat) (m : Nat) (τ : Sd) (h' : Hd) : Prop := ∃ (e : Hd) (b : Nat) (L : List D) (k : Int) (t3 t4 : Option D), h' = h ++ e ∧ τ = [some t, some (.int k), some (.loc b), t3, t4] ∧ h'[b]? = some (.lst L) ∧ (∀ u ∈ L, tm n u) ∧ ((L.map (pts n)).flatten).length ≤ K ∧ k + mxl n L = dpn n t ∧ m = (mxl n L).toNat
theorem lvl_len {n K : Nat} : ∀ {L : List D}, (∀ u ∈ L, hsh n u) → ((L.map (pts n)).flatten).length = L.length + ((((L.map insD).flatten).map (pts n)).flatten).length
  | [], _ => rfl
  | u :: L, h => by
    have ih := lvl_len (n := n) (K := K) fun v hv => h v (List.mem_cons_of_mem _ hv)
    rw [List.map_cons, List.flatten_cons, List.length_append, ih, (hsh_sub (h u List.mem_cons_self)).2.2, List.map_cons, List.flatten_cons, List.map_append, List.flatten_append, List.length_append, List.length_cons, List.length_cons]
    omega
theorem depth_spec {n : Nat} {t : D} (hf : F[f]? = some ⟨y1, [y2], [y3, y4, y5, y6, z1], st2, cDepthOf ft⟩) (ht : F[ft]? = some ⟨x1, [x2], [x3, x4, x5, x6], st, cTermsIn⟩) (g : tm n t) (hl : (pts n t).length < 100000) (q : Q (.int (dpn n t)) h) : wpCall gl F (d+2) f [t] h Q ex := by
  have hz : sizeLine > 16000000 := by decide
  refine call_of hf rfl ?_
  simp [startD, cDepthOf]
  refine nxt_of ?_
  simp
  rw [m_gd (tm_gd g)]
  refine ⟨by omega, nxt_of ?_⟩
  simp
  refine while_inv (DW h t n (pts n t).length) (m := (mxl n [t]).toNat) ⟨[.lst [t]], h.length, [t], 0, _, _, rfl, rfl, by simp, fun u hu => by simp at hu; subst hu; exact g, by simp, ?_, rfl⟩ ?_
  · have := dpn_pos (tm_hsh g)
    simp [mxl]
    omega
  rintro m τ h' ⟨e, b, L, k, t3, t4, rfl, rfl, hb, hL, hK, hk, rfl⟩
  have hLl := flat_len fun u hu => tm_hsh (hL u hu)
  simp [hb]
  have bl : b < (h ++ e).length := (List.getElem?_eq_some_iff.mp hb).1
  by_cases c : 0 < L.length
  · rw [if_pos c]
    refine nxt_of ?_
    simp [hb]
    have hne : L ≠ [] := by intro z; rw [z] at c; exact absurd c (by simp)
    have mf := mx_flat n L 0 (Int.le_refl _) (fun u hu => tm_hsh (hL u hu)) hne
    have ll := lvl_len (n := n) (K := 0) fun u hu => tm_hsh (hL u hu)
    have hI : ∀ u ∈ (L.map insD).flatten, tm n u := fun u hu => by
      obtain ⟨l, hl, hu⟩ := List.mem_flatten.mp hu
      obtain ⟨v, hv, rfl⟩ := List.mem_map.mp hl
      exact (tm_sub (hL v hv)).2.2 u hu
    have fl := flat_len fun u hu => tm_hsh (hI u hu)
    have sub : ∀ x ∈ L, (insD x).length ≤ 1000 := fun x hx => (gd_ins (tm_sub (hL x hx)).1 (tm_gd (hL x hx))).1
    refine comp2_on (B := 100000) insD L [] _ (by simp) (by simp only [List.length_nil]; omega) (fun acc => ?_) (fun x hx acc R hB hR => ?_) ?_
    · show ((h ++ (e ++ [DO.lst []])).set (h.length + e.length) (.lst acc))[b]? = some (.lst L)
      rw [List.length_append] at bl
      rw [List.getElem?_set_ne (by omega), ← List.append_assoc, List.getElem?_append_left (by simpa using bl)]
      exact hb
    · have ix := tm_sub (hL x hx)
      simp
      rw [m_gd (tm_gd (hL x hx))]
      refine terms_in_spec ht (gd_ok (tm_gd (hL x hx))) ix.1 ?_
      simp
      have la : (h ++ (e ++ [DO.lst acc]))[h.length + e.length]? = some (.lst acc) := by
        rw [← List.append_assoc, List.getElem?_append_right (by simp)]
        simp
      rw [show insD x = (insD x).map id by simp]
      refine in2_on id id (insD x) acc _ la (by omega) (fun _ => trivial) (fun y hy acc' k hk => ?_) ?_
      · have gy := tm_gd (ix.2.2 y hy)
        simp at hk
        simp
        rw [m_gd gy]
        exact hk
      · simpa using hR
    · have la : ((h ++ (e ++ [DO.lst []])).set (h.length + e.length) (DO.lst ([] ++ (L.map insD).flatten))) = h ++ (e ++ [DO.lst (L.map insD).flatten]) := by
        rw [← List.append_assoc, List.set_append_right _ _ (by simp)]
        simp
      rw [la]
      simp
      refine ⟨(mxl n (L.map insD).flatten).toNat, ?_, e ++ [DO.lst (L.map insD).flatten], h.length + e.length, _, _, _, _, rfl, rfl, ?_, hI, by omega, ?_, rfl⟩
      · have h0 := (mx_ge (((L.map insD).flatten).map (dpn n)) 0).1
        unfold mxl at mf ⊢
        omega
      · rw [← List.append_assoc, List.getElem?_append_right (by simp)]
        simp
      · rw [← hk]
        unfold mxl
        rw [mf]
        omega
  · rw [if_neg c]
    have e0 : L = [] := List.length_eq_zero_iff.mp (by omega)
    subst e0
    refine nxt_of ?_
    simp
    have : k = dpn n t := by
      rw [← hk]
      simp [mxl]
    rw [this]
    exact gc_app trivial q
end
end Py

namespace Py
open PySem PySem.Spec PyProof.Rows L2
section
variable {ex : XD} {gl : List (Str × D)} {F : List FD} {f ft fw fk fp fs d : Nat} {x1 x2 x3 x4 x5 x6 x7 x8 y1 y2 y3 y4 y5 y6 z1 z2 z3 z4 z5 z6 w1 w2 w3 w4 w5 w6 v1 v2 v3 v4 v5 v6 v7 v8 : Str} {st st2 st3 st4 : Stmt} {h : Hd} {Q : PD}
theorem put_for_spec {one other : D} {k m N : Nat} (hf : F[f]? = some ⟨z1, [z2, z3, z4], [z5, z6, w1, w2], st3, cPutFor ft fw f⟩) (hw : F[fw]? = some ⟨y1, [y2, y3], [y4, y5, y6, v1], st2, cWith⟩) (ht : F[ft]? = some ⟨x1, [x2], [x3, x4, x5, x6], st, cTermsIn⟩)
    (go : tm k other) (g1 : tm m one) (hk : 3 * (N + k) + 1 ≤ 60) (hm : 3 * m + 1 ≤ 60) : ∀ (n : Nat) (t : D) (d : Nat) (h : Hd) (Q : PD) (ex : XD), n ≤ N → tm n t → Q (putD one other n t) h → wpCall gl F (d + n + 1) f [t, one, other] h Q ex
  | 0, _, _, _, _, _, _, g, _ => g.elim
  | n + 1, t, d, h, Q, ex, hn, g, q => by
    have hz : sizeLine > 16000000 := by decide
    have gt := tm_gd g
    have g1' := tm_gd g1
    have go' := tm_gd go
    have s := tm_sub g
    refine call_of hf rfl ?_
    simp [startD, cPutFor]
    rw [x_eqG gt g1' (by omega) (by omega) (tm_tup g) (tm_tup g1)]
    have q : Q (if t = one then other else withD t ((insD t).map (putD one other n))) h := q
    have gr : gd (3 * (n + 1 + k) + 1) (if t = one then other else withD t ((insD t).map (putD one other n))) := tm_gd (put_tm (one := one) go g)
    simp
    by_cases c : t = one
    · rw [if_pos c] at q
      rw [if_pos c]
      refine nxt_of ?_
      simp
      exact gc_same q
    · rw [if_neg c] at q gr
      rw [if_neg c]
      refine nxt_of ?_
      simp
      rw [m_gd gt, m_gd gt]
      refine terms_in_spec (d := d + n) ht (gd_ok gt) s.1 ?_
      simp
      rw [show insD t = (insD t).map id by simp]
      have li := gd_ins s.1 gt
      refine comp_on id (putD one other n) (by omega) trivial (fun u hu k st => ?_) ?_
      · have gu := g.2.2 u hu
        simp
        rw [m_gd (tm_gd gu), m_gd g1', m_gd go']
        refine put_for_spec hf hw ht go g1 hk hm n u d _ _ _ (by omega) gu ?_
        rw [m_gd (tm_gd (put_tm go gu))]
        exact st
      · refine with_spec (d := d + n) (n := 3 * (n + k) + 1) hw s.1 (gd_le gt (by omega)) (a := h.length) (L := (insD t).map (putD one other n)) (by simp) (by simp) (fun u hu => ?_) ?_
        · obtain ⟨v, hv, rfl⟩ := List.mem_map.mp hu
          exact tm_gd (put_tm go (g.2.2 v hv))
        · exact gc_app (data_clean _ _ (okT_data (gd_ok gr))) q
/-! unlike_parts -/
def kD (A : List D) : List D := A.map fun x => D.str x.pd.shown
def itD (i : D × Bool) : D := .tup [i.1, .bl i.2]
theorem kD_has {N : Nat} {A : List D} {u : D} (hA : ∀ x ∈ A, gd N x) (hu : gd N u) : dHas (kD A) (.inr u.pd.shown) = decide (u ∈ A) := by
  rw [Bool.eq_iff_iff, decide_eq_true_eq]
  unfold dHas kD
  rw [List.any_map, List.any_eq_true]
  constructor
  · rintro ⟨x, hx, e⟩
    have e : x.pd.shown = u.pd.shown := by simpa [dkey] using e
    rw [← gd_inj (hA x hx) hu e]
    exact hx
  · exact fun hx => ⟨u, hx, by simp [dkey]⟩
theorem kD_get {N : Nat} : ∀ {A : List D} {u : D}, (∀ x ∈ A, gd N x) → gd N u → dGet (kD A) A (.inr u.pd.shown) = if u ∈ A then some u else none
  | [], u, _, _ => by simp [kD, dGet]
  | x :: A, u, hA, hu => by
    have ih := kD_get (A := A) (fun y hy => hA y (List.mem_cons_of_mem _ hy)) hu
    show (if dkey (D.str x.pd.shown) = some (.inr u.pd.shown) then some x else dGet (kD A) A (.inr u.pd.shown)) = _
    by_cases c : x = u
    · subst c
      rw [if_pos (by rfl), if_pos List.mem_cons_self]
    · rw [if_neg (fun e => c (gd_inj (hA x List.mem_cons_self) hu (by simpa [dkey] using e))), ih]
      by_cases c2 : u ∈ A
      · rw [if_pos c2, if_pos (List.mem_cons_of_mem _ c2)]
      · rw [if_neg c2, if_neg (fun z => by rcases List.mem_cons.mp z with z | z; exact c z.symm; exact c2 z)]
theorem kD_put {N : Nat} {A : List D} {u : D} (hA : ∀ x ∈ A, gd N x) (hu : gd N u) (hn : u ∉ A) : dPut (kD A) A (.inr u.pd.shown) u = (kD (A ++ [u]), A ++ [u]) := by
  unfold dPut
  rw [kD_has hA hu, if_neg (by simpa using hn)]
  simp [kD, keyD]
theorem kD_vals {N : Nat} {A : List D} (hA : ∀ x ∈ A, gd N x) : dVals (kD A) A = A := by
  show (A.map fun x => D.str x.pd.shown).map (fun x => ((dkey x).bind (dGet (kD A) A)).getD .non) = A
  rw [List.map_map]
  have : ∀ x ∈ A, ((fun x => ((dkey x).bind (dGet (kD A) A)).getD .non) ∘ fun x : D => D.str x.pd.shown) x = x := fun x hx => by
    show ((some (Sum.inr x.pd.shown)).bind (dGet (kD A) A)).getD .non = x
    rw [Option.bind_some, kD_get hA (hA x hx), if_pos hx]
    rfl
  have e := List.map_congr_left this
  rw [e]
  simp
theorem dfs_pre : ∀ (n : Nat) (A : List D) (t : D), ∃ B, dfs n A t = A ++ B
  | 0, A, t => ⟨[], by simp [dfs]⟩
  | n + 1, A, t => by
    show ∃ B, (if t ∈ A then A else (insD t).foldl (dfs n) A ++ [t]) = A ++ B
    split
    · exact ⟨[], by simp⟩
    · have go : ∀ (I A : List D), ∃ B, I.foldl (dfs n) A = A ++ B := by
        intro I
        induction I with
        | nil => exact fun A => ⟨[], by simp⟩
        | cons u I ih =>
          intro A
          obtain ⟨B, e⟩ := dfs_pre n A u
          obtain ⟨C, e2⟩ := ih (A ++ B)
          rw [List.foldl_cons, e]
          exact ⟨B ++ C, by rw [e2, List.append_assoc]⟩
      obtain ⟨B, e⟩ := go (insD t) A
      exact ⟨B ++ [t], by rw [e, List.append_assoc]⟩
theorem step_pre {n : Nat} : ∀ (is : List (D × Bool)) (A : List D), ∃ B, is.foldl (stepF n) A = A ++ B
  | [], A => ⟨[], by simp⟩
  | (u, b) :: is, A => by
    have : ∃ B, stepF n A (u, b) = A ++ B := by
      unfold stepF
      split
      · exact ⟨_, rfl⟩
      · exact dfs_pre n A u
    obtain ⟨B, e⟩ := this
    obtain ⟨C, e2⟩ := step_pre is (A ++ B)
    rw [List.foldl_cons, e]
    exact ⟨B ++ C, by rw [e2, List.append_assoc]⟩
def UW (h : Hd) (t : D) (n : Nat) (m : Nat) (τ : Sd) (h' : Hd) : Prop := ∃ (A : List D) (ls : List (D × Bool)) (t3 t4 : Option D), h' = h ++ [.dct false (kD A) A, .lst (ls.map itD)] ∧ τ = [some t, some (.loc h.length), some (.loc (h.length + 1)), t3, t4, none, none] ∧
  m = (ls.map (cost n)).sum ∧ m ≤ 2 * (pts n t).length ∧ ls.reverse.foldl (stepF n) A = uq n t ∧ fresh n ls.reverse A ∧ (∀ i ∈ ls, tm n i.1 ∧ i.1 ∈ pts n t) ∧ ∀ x ∈ A, tm n x
theorem cost_pos {n : Nat} {i : D × Bool} (h : tm n i.1) : 1 ≤ cost n i := by
  unfold cost
  split
  · exact Nat.le_refl _
  · have := pts_pos (tm_hsh h)
    omega
theorem cost_len {n : Nat} : ∀ {ls : List (D × Bool)}, (∀ i ∈ ls, tm n i.1) → ls.length ≤ (ls.map (cost n)).sum
  | [], _ => Nat.le_refl _
  | i :: ls, h => by
    have a := cost_pos (h i List.mem_cons_self)
    have b := cost_len fun j hj => h j (List.mem_cons_of_mem _ hj)
    rw [List.map_cons, List.sum_cons, List.length_cons]
    omega
theorem cost_sub {n : Nat} {u : D} (h : hsh n u) : cost n (u, false) = 2 + (((insD u).map fun v => (v, false)).map (cost n)).sum := by
  show 2 * (pts n u).length = _
  rw [(hsh_sub h).2.2, List.length_cons, List.length_flatten, List.map_map, List.map_map]
  generalize insD u = I
  have : ∀ I : List D, 2 * (I.map (List.length ∘ pts n)).sum = (I.map (cost n ∘ fun v => (v, false))).sum := by
    intro I
    induction I with
    | nil => rfl
    | cons v I ih =>
      rw [List.map_cons, List.map_cons, List.sum_cons, List.sum_cons, ← ih]
      show 2 * ((pts n v).length + _) = 2 * (pts n v).length + _
      omega
  have := this I
  omega
theorem len_sub : ∀ (l m : List D), l.Nodup → (∀ x ∈ l, x ∈ m) → l.length ≤ m.length
  | [], m, _, _ => Nat.zero_le _
  | x :: l, m, nd, hs => by
    obtain ⟨n1, n2⟩ := List.nodup_cons.mp nd
    have hx := hs x List.mem_cons_self
    have a := len_sub l (m.erase x) n2 fun y hy => (List.mem_erase_of_ne (fun (e : y = x) => n1 (e ▸ hy))).mpr (hs y (List.mem_cons_of_mem _ hy))
    rw [List.length_erase_of_mem hx] at a
    have := List.length_pos_of_mem hx
    rw [List.length_cons]
    omega
theorem unlike_spec {n : Nat} {t : D} (hf : F[f]? = some ⟨y1, [y2], [y3, y4, y5, y6, z1, z2, z3], st2, cUnlike ft fk⟩) (hk : F[fk]? = some ⟨z4, [z5], [z6], st3, cKeyOf⟩) (ht : F[ft]? = some ⟨x1, [x2], [x3, x4, x5, x6], st, cTermsIn⟩) (g : tm n t) (hn : 3 * n + 1 ≤ 60) (hl : (pts n t).length < 100000) (htl : tlen t ≤ 16000000)
    (q : Q (.tup (uq n t)) h) : wpCall gl F (d+2) f [t] h Q ex := by
  have hz : sizeLine > 16000000 := by decide
  have hh := tm_hsh g
  have hP : ∀ p ∈ pts n t, tlen p ≤ 16000000 := fun p hp => by
    rw [(hsh_sub hh).2.2] at hp
    rcases List.mem_cons.mp hp with rfl | hp
    · exact htl
    · obtain ⟨l, hl, hp⟩ := List.mem_flatten.mp hp
      obtain ⟨u, hu, rfl⟩ := List.mem_map.mp hl
      have := pts_short hh u hu p hp
      omega
  refine call_of hf rfl ?_
  simp [startD, cUnlike]
  refine nxt_of ?_
  simp
  rw [m_gd (tm_gd g)]
  refine ⟨by omega, by omega, nxt_of ?_⟩
  simp
  refine while_inv (UW h t n) (m := cost n (t, false)) ⟨[], [(t, false)], _, _, rfl, rfl, by simp, by simp [cost], ?_, ?_, fun i hi => ?_, fun x hx => by cases hx⟩ ?_
  · show stepF n [] (t, false) = uq n t
    exact dfs_nil hh
  · trivial
  · simp at hi
    subst hi
    exact ⟨g, by rw [(hsh_sub hh).2.2]; exact List.mem_cons_self⟩
  rintro m τ h' ⟨A, ls, t3, t4, rfl, rfl, rfl, hm, hfo, hfr, hls, hA⟩
  have hAg : ∀ x ∈ A, gd (3 * n + 1) x := fun x hx => tm_gd (hA x hx)
  have hAl : A.length ≤ (pts n t).length := by
    obtain ⟨B, e⟩ := step_pre (n := n) ls.reverse A
    rw [hfo] at e
    have h1 := congrArg List.length e
    rw [List.length_append] at h1
    have h2 : (uq n t).length ≤ (pts n t).length := by
      exact len_sub _ _ (uq_nodup hh) fun x hx => (uq_mem hh x).mp hx
    omega
  have hll := cost_len fun i hi => (hls i hi).1
  have hkl : (kD A).length = A.length := by simp [kD]
  simp
  rcases List.eq_nil_or_concat ls with rfl | ⟨ls, ⟨u, b⟩, hc⟩
  · rw [if_neg (by simp)]
    refine nxt_of ?_
    simp
    rw [hkl]
    refine ⟨by omega, ?_⟩
    rw [kD_vals hAg]
    have e : A = uq n t := hfo
    rw [e]
    refine gc_app ?_ q
    simp only [D.clean]
    exact cl_okT _ fun u hu => gd_ok (tm_gd (tm_pts g u ((uq_mem hh u).mp hu)))
  · rw [List.concat_eq_append] at hc
    subst hc
    rw [if_pos (by simp)]
    have gu : tm n u := (hls (u, b) (by simp)).1
    have hup : u ∈ pts n t := (hls (u, b) (by simp)).2
    have gug := tm_gd gu
    rw [List.length_append] at hll
    rw [List.reverse_append] at hfo hfr
    have hls' : ∀ i ∈ ls, tm n i.1 ∧ i.1 ∈ pts n t := fun i hi => hls i (by simp [hi])
    simp [itD]
    simp at hm
    cases b with
    | true =>
      obtain ⟨hn1, hfr⟩ : u ∉ A ∧ fresh n ls.reverse (A ++ [u]) := hfr
      refine nxt_of ?_
      simp
      refine nxt_of ?_
      simp
      rw [m_gd gug, m_gd gug]
      refine key_spec hk gu hn (hP u hup) ?_
      simp
      rw [kD_put hAg gug hn1]
      refine ⟨by omega, (ls.map (cost n)).sum, ?_, A ++ [u], ls, _, _, rfl, rfl, rfl, by omega, hfo, hfr, hls', fun x hx => ?_⟩
      · show _ < _ + 1
        omega
      · rcases List.mem_append.mp hx with hx | hx
        · exact hA x hx
        · rw [List.mem_singleton] at hx
          rw [hx]
          exact gu
    | false =>
      have hfr : fresh n ls.reverse (dfs n A u) := hfr
      have hfo : ls.reverse.foldl (stepF n) (dfs n A u) = uq n t := hfo
      have hu := tm_hsh gu
      have cs := cost_sub hu
      refine nxt_of ?_
      simp
      refine nxt_of ?_
      simp
      rw [m_gd gug]
      refine key_spec hk gu hn (hP u hup) ?_
      simp
      rw [kD_get hAg gug]
      by_cases c : u ∈ A
      · rw [if_pos c]
        have ed : dfs n A u = A := by rw [dfs_sub hu, if_pos c]
        rw [ed] at hfr hfo
        simp
        exact ⟨(ls.map (cost n)).sum, by omega, A, ls, _, _, rfl, rfl, rfl, by omega, hfo, hfr, hls', hA⟩
      · rw [if_neg c]
        simp
        refine nxt_of ?_
        simp
        have ed : dfs n A u = (insD u).foldl (dfs n) A ++ [u] := by rw [dfs_sub hu, if_neg c]
        have li := gd_ins (tm_sub gu).1 gug
        have ll := cost_len fun i hi => (hls' i hi).1
        rw [m_gd gug]
        refine ⟨by omega, ?_⟩
        simp
        refine ⟨by omega, nxt_of ?_⟩
        simp
        rw [m_gd gug]
        refine terms_in_spec ht (gd_ok gug) (tm_sub gu).1 ?_
        simp
        rw [show (insD u).reverse = (insD u).reverse.map id by simp]
        refine comp_on id (fun v => itD (v, false)) (by rw [List.length_reverse]; omega) trivial (fun v hv k st => ?_) ?_
        · have gv := tm_gd ((tm_sub gu).2.2 v (by simpa using hv))
          simp
          rw [m_gd gv]
          exact ⟨by omega, st⟩
        · simp
          refine ⟨by omega, ?_⟩
          have eL : ls.map itD ++ (D.tup [u, .bl true] :: ((insD u).map fun v => itD (v, false)).reverse) = (ls ++ (u, true) :: ((insD u).map fun v => (v, false)).reverse).map itD := by
            simp [itD, List.map_reverse, Function.comp_def]
          rw [eL]
          have er : (ls ++ (u, true) :: ((insD u).map fun v => (v, false)).reverse).reverse = ((insD u).map fun v => (v, false)) ++ (u, true) :: ls.reverse := by simp
          have em : ((ls ++ (u, true) :: ((insD u).map fun v => (v, false)).reverse).map (cost n)).sum = (ls.map (cost n)).sum + (1 + ((((insD u).map fun v => (v, false)).map (cost n)).sum)) := by
            rw [List.map_append, List.map_cons, List.map_reverse, List.sum_append, List.sum_cons, List.sum_reverse]
            rfl
          refine ⟨_, ?_, A, _, _, _, rfl, rfl, rfl, ?_, ?_, ?_, fun i hi => ?_, hA⟩
          · rw [em]
            omega
          · rw [em]
            omega
          · rw [er, List.foldl_append, step_falses, List.foldl_cons]
            rw [ed] at hfo
            exact hfo
          · rw [er, fresh_falses]
            rw [ed] at hfr
            exact ⟨dfs_fresh hu c, hfr⟩
          · rcases List.mem_append.mp hi with hi | hi
            · exact hls' i hi
            · rcases List.mem_cons.mp hi with rfl | hi
              · exact ⟨gu, hup⟩
              · rw [List.mem_reverse] at hi
                obtain ⟨v, hv, rfl⟩ := List.mem_map.mp hi
                refine ⟨(tm_sub gu).2.2 v hv, pts_trans hh (Nat.le_refl _) u hup v ?_⟩
                rw [(hsh_sub hu).2.2]
                refine List.mem_cons_of_mem _ (List.mem_flatten.mpr ⟨_, List.mem_map_of_mem hv, ?_⟩)
                rw [(hsh_sub ((hsh_sub hu).2.1 v hv)).2.2]
                exact List.mem_cons_self
end
end Py

namespace Py
open PySem PySem.Spec PyProof.Rows L2
/-! ### dicts by what is got from them -/
theorem dput_len {ks vs : List D} {k : Key} {w : D} (hl : ks.length = vs.length) : (dPut ks vs k w).1.length = (dPut ks vs k w).2.length ∧ (dPut ks vs k w).1.length ≤ ks.length + 1 := by
  unfold dPut
  split
  · simp [hl]
  · simp [hl]
theorem dget_zip {k k' : Key} {w : D} : ∀ {ks vs : List D}, ks.length = vs.length → dGet ks (List.zipWith (fun x v => if dkey x = some k then w else v) ks vs) k' = if k = k' then (if dHas ks k = true then some w else none) else dGet ks vs k'
  | [], [], _ => by
    simp only [List.zipWith_nil_left, dGet, dHas, List.any_nil, Bool.false_eq_true, if_false]
    split <;> rfl
  | x :: ks, v :: vs, hl => by
    have ih := dget_zip (k := k) (k' := k') (w := w) (ks := ks) (vs := vs) (by simpa using hl)
    rw [List.zipWith_cons_cons]
    simp only [dGet]
    by_cases c : dkey x = some k
    · rw [if_pos c]
      by_cases e : k = k'
      · subst e
        rw [if_pos c, if_pos rfl, if_pos]
        unfold dHas
        rw [List.any_cons]
        simp [c]
      · rw [if_neg (by rw [c]; exact fun z => e (Option.some.inj z)), ih, if_neg e, if_neg e, if_neg (by rw [c]; exact fun z => e (Option.some.inj z))]
    · rw [if_neg c]
      by_cases e : k = k'
      · subst e
        rw [if_neg c, ih, if_pos rfl, if_pos rfl]
        have : dHas (x :: ks) k = dHas ks k := by
          unfold dHas
          rw [List.any_cons]
          simp [c]
        rw [this]
      · rw [if_neg e, ih, if_neg e]
  | [], _ :: _, h => by cases h
  | _ :: _, [], h => by cases h
theorem dget_app {k k' : Key} {w : D} : ∀ {ks vs : List D}, ks.length = vs.length → dHas ks k = false → dGet (ks ++ [keyD k]) (vs ++ [w]) k' = if k = k' then some w else dGet ks vs k'
  | [], [], _, _ => by
    simp only [List.nil_append, dGet, dkey_keyD, Option.some.injEq]
  | x :: ks, v :: vs, hl, hh => by
    unfold dHas at hh
    rw [List.any_cons, Bool.or_eq_false_iff] at hh
    have ih := dget_app (k := k) (k' := k') (w := w) (ks := ks) (vs := vs) (by simpa using hl) hh.2
    simp only [List.cons_append, dGet]
    have hx : dkey x ≠ some k := by simpa using hh.1
    by_cases c : dkey x = some k'
    · rw [if_pos c, if_pos c, if_neg]
      intro e
      subst e
      exact hx c
    · rw [if_neg c, if_neg c, ih]
  | [], _ :: _, h, _ => by cases h
  | _ :: _, [], h, _ => by cases h
theorem dget_put {ks vs : List D} {k k' : Key} {w : D} (hl : ks.length = vs.length) : dGet (dPut ks vs k w).1 (dPut ks vs k w).2 k' = if k = k' then some w else dGet ks vs k' := by
  unfold dPut
  by_cases c : dHas ks k = true
  · rw [if_pos c]
    show dGet ks (List.zipWith _ ks vs) k' = _
    rw [dget_zip hl, if_pos c]
  · rw [if_neg c]
    exact dget_app hl (by simpa using c)
/-- the dict tells g of each of L -/
structure Tells (ks vs : List D) (L : List D) (g : D → D → Prop) : Prop where
  len : ks.length = vs.length
  get : ∀ p ∈ L, ∃ w, dGet ks vs (.inr p.pd.shown) = some w ∧ g p w
theorem Tells.put {ks vs L : List D} {g : D → D → Prop} {x w : D} {N : Nat} (h : Tells ks vs L g) (hL : ∀ p ∈ L, gd N p) (hx : gd N x) (hg : g x w) : Tells (dPut ks vs (.inr x.pd.shown) w).1 (dPut ks vs (.inr x.pd.shown) w).2 (L ++ [x]) g := by
  refine ⟨(dput_len h.len).1, fun p hp => ?_⟩
  rw [dget_put h.len]
  rcases List.mem_append.mp hp with hp | hp
  · by_cases c : x.pd.shown = p.pd.shown
    · rw [if_pos (by rw [c])]
      have := gd_inj hx (hL p hp) c
      subst this
      exact ⟨w, rfl, hg⟩
    · rw [if_neg (fun z => c (by simpa using z))]
      exact h.get p hp
  · rw [List.mem_singleton] at hp
    subst hp
    rw [if_pos rfl]
    exact ⟨w, rfl, hg⟩
/-! ### parts behind a term -/
def ka : List D → Prop
  | [] => True
  | x :: s => (∀ u ∈ insD x, u ∈ s) ∧ ka s
theorem ka_app : ∀ {a b : List D}, ka a → ka b → ka (a ++ b)
  | [], _, _, h => h
  | x :: a, b, h, g => ⟨fun u hu => List.mem_append_left _ (h.1 u hu), ka_app h.2 g⟩
theorem ka_pts : ∀ {n : Nat} {t : D}, hsh n t → ka (pts n t)
  | 0, _, h => h.elim
  | n + 1, t, h => by
    refine ⟨fun u hu => List.mem_flatten.mpr ⟨_, List.mem_map_of_mem hu, ?_⟩, ?_⟩
    · rw [(hsh_sub (h.2 u hu)).2.2]
      exact List.mem_cons_self
    · have : ∀ I : List D, (∀ u ∈ I, hsh n u) → ka ((I.map (pts n)).flatten) := by
        intro I
        induction I with
        | nil => exact fun _ => trivial
        | cons u I ih =>
          intro hI
          rw [List.map_cons, List.flatten_cons]
          exact ka_app (ka_pts (hI u List.mem_cons_self)) (ih fun v hv => hI v (List.mem_cons_of_mem _ hv))
      exact this _ h.2
theorem ka_rev : ∀ {L : List D} {i : Nat} {x : D}, ka L → L.reverse[i]? = some x → ∀ u ∈ insD x, u ∈ L.reverse.take i
  | [], i, x, _, h, _, _ => by simp at h
  | y :: s, i, x, hk, h, u, hu => by
    rw [List.reverse_cons] at h ⊢
    by_cases c : i < s.reverse.length
    · rw [List.getElem?_append_left c] at h
      rw [List.take_append_of_le_length (by omega)]
      exact ka_rev hk.2 h u hu
    · have hi : i < (s.reverse ++ [y]).length := (List.getElem?_eq_some_iff.mp h).1
      rw [List.length_append, List.length_singleton] at hi
      have e : i = s.reverse.length := by omega
      subst e
      rw [List.getElem?_append_right (Nat.le_refl _)] at h
      simp at h
      subst h
      rw [List.take_append_of_le_length (Nat.le_refl _), List.take_length]
      exact List.mem_reverse.mpr (hk.1 u hu)
/-! ### signs of texts -/
theorem T_lt : ∀ {n : Nat} {x : D}, gd n x → ∀ c ∈ T x, c < 0x110000
  | 0, _, h, _, _ => h.elim
  | n + 1, .tup xs, h, c, hc => by
    rw [T_tup] at hc
    have two : ∀ (xs : List D), (∀ x ∈ xs, gd n x) → ∀ c ∈ T2 xs, c < 0x110000 := by
      intro xs
      induction xs with
      | nil => intro _ c hc; simp [T2] at hc; omega
      | cons x xs ih =>
        intro hx c hc
        cases xs with
        | nil =>
          simp only [T2, List.mem_append, List.mem_singleton] at hc
          rcases hc with hc | hc
          · exact T_lt (hx x List.mem_cons_self) c hc
          · omega
        | cons y r =>
          simp only [T2, List.mem_append, List.mem_cons] at hc
          rcases hc with hc | hc | hc | hc
          · exact T_lt (hx x List.mem_cons_self) c hc
          · omega
          · omega
          · exact ih (fun z hz => hx z (List.mem_cons_of_mem _ hz)) c hc
    rcases List.mem_cons.mp hc with hc | hc
    · omega
    · match xs, h, hc with
      | [], h, hc => exact two [] h.2 c hc
      | [x], h, hc =>
        simp only [T1, List.mem_append, List.mem_cons, List.not_mem_nil, or_false] at hc
        rcases hc with hc | hc | hc
        · exact T_lt (h.2 x List.mem_cons_self) c hc
        · omega
        · omega
      | x :: y :: r, h, hc => exact two (x :: y :: r) h.2 c hc
  | n + 1, .str x, h, c, hc => by
    rw [T_str h.2] at hc
    rcases List.mem_cons.mp hc with hc | hc
    · omega
    · rcases List.mem_append.mp hc with hc | hc
      · have := List.all_eq_true.mp h.2 c hc
        refine sign_lt c ?_
        unfold okSign at this
        simpa using this
      · rw [List.mem_singleton] at hc
        omega
  | n + 1, .int i, h, c, hc => by
    have := int_sgn i c hc
    omega
  | n + 1, .non, h, _, _ => h.elim
  | n + 1, .bl _, h, _, _ => h.elim
  | n + 1, .loc _, h, _, _ => h.elim
  | n + 1, .tl _, h, _, _ => h.elim
  | n + 1, .td _ _ _, h, _, _ => h.elim
  | n + 1, .rl _, h, _, _ => h.elim
theorem text_lay {n : Nat} {x : D} (h : gd n x) : (D.str x.pd.shown).pd.canLay0 = true := by
  refine str_lay ?_
  rw [Array.all_eq_true]
  intro i hi
  have hm : x.pd.shown.cps[i] ∈ T x := by
    show x.pd.shown.cps[i] ∈ x.pd.shown.cps.toList
    simp
  exact decide_eq_true (T_lt h _ hm)
theorem pures_strs : ∀ us : List Str, D.pures (us.map D.str) = true
  | [] => rfl
  | u :: us => by simp only [List.map_cons, D.pures, D.pure, pures_strs us]; rfl
theorem pds_strs : ∀ us : List Str, D.pds (us.map D.str) = us.map PyData.str
  | [] => rfl
  | u :: us => by simp only [List.map_cons, D.pds, D.pd, pds_strs us]
theorem depth_strs : ∀ us : List Str, PyData.depthAll (us.map PyData.str) = 0
  | [] => rfl
  | n :: ns => by simp only [List.map_cons, PyData.depthAll, PyData.depth, depth_strs ns]; rfl
theorem x_neTx {us : List Str} {h : Hd} {Q : PD} (hu : ∀ u ∈ us, (D.str u).pd.canLay0 = true) : px .ne [.tl (us.map D.str), .tl (us.map D.str)] h Q = Q (.bl false) h := by
  have sn : snap h (.tl (us.map D.str)) = some (.list (us.map PyData.str)) := by
    unfold snap
    rw [if_neg (by simp [D.pure])]
    show (if D.pures (us.map D.str) = true then some (PyData.list (D.pds (us.map D.str))) else none) = _
    rw [if_pos (pures_strs us), pds_strs]
  have cl : PyData.canLay0 (.list (us.map PyData.str)) = true := by
    simp only [PyData.canLay0]
    rw [← pds_strs]
    exact lay_strs hu
  have sh : SeqAt.shaped (.list (us.map PyData.str)) = true := by
    unfold SeqAt.shaped
    rw [cl]
    simp [PyData.depth, depth_strs]
  simp only [px_eq, wpP]
  show eqW (.tl (us.map D.str)) (.tl (us.map D.str)) h (bon Q) = _
  have e : eqW (.tl (us.map D.str)) (.tl (us.map D.str)) h (bon Q) = (SeqAt.shaped (.list (us.map PyData.str)) = true ∧ SeqAt.shaped (.list (us.map PyData.str)) = true ∧ bon Q (PyData.eqv (.list (us.map PyData.str)) (.list (us.map PyData.str))) h) := by
    unfold eqW
    simp only [sn]
  rw [e, SeqAt.eqv_refl _ cl]
  simp [sh, bon]
end Py

namespace K03
open PySem PySem.Spec PyProof.Rows L2 Py
def top (i : Nat) : Stmt := PySem.Challenge.pw_sayswhy_k03_parts_of_terms.main.body.getD i (.Pass ⟨0, 0, 0, 0⟩)
def b_terms_in : CS :=
  (.seq (.asg (.nm 1) (.prim .idx (.acons (.var 0) (.acons (.cst (.int 0)) .anil))))
  (.seq (.ite (.prim .eq (.acons (.var 1) (.acons (.cst (.str "of")) .anil)))
    (.seq (.ret (.prim .idx (.acons (.var 0) (.acons (.cst (.int 2)) .anil))))
    .nil)
    .nil)
  (.seq (.ite (.prim .eq (.acons (.var 1) (.acons (.cst (.str "sum")) .anil)))
    (.seq (.ret (.prim .tuple (.acons (.comp (.tp [2, 3]) (.prim .idx (.acons (.var 0) (.acons (.cst (.int 1)) .anil))) none .anil (.var 3)) .anil)))
    .nil)
    .nil)
  (.seq (.ite (.prim .in_ (.acons (.var 1) (.acons (.tup (.acons (.cst (.str "all")) (.acons (.cst (.str "some")) .anil))) .anil)))
    (.seq (.ret (.prim .idx (.acons (.var 0) (.acons (.cst (.int 1)) .anil))))
    .nil)
    .nil)
  (.seq (.ret (.prim .slLo (.acons (.var 0) (.acons (.cst (.int 1)) .anil))))
  .nil)))))
abbrev d_terms_in : FD := ⟨"terms_in", ["term"], ["term", "kind", "factor", "own"], top 1, b_terms_in⟩
def b_with_terms : CS :=
  (.seq (.asg (.nm 2) (.prim .idx (.acons (.var 0) (.acons (.cst (.int 0)) .anil))))
  (.seq (.ite (.prim .eq (.acons (.var 2) (.acons (.cst (.str "of")) .anil)))
    (.seq (.ret (.tup (.acons (.cst (.str "of")) (.acons (.prim .idx (.acons (.var 0) (.acons (.cst (.int 1)) .anil))) (.acons (.prim .tuple (.acons (.var 1) .anil)) .anil)))))
    .nil)
    .nil)
  (.seq (.ite (.prim .eq (.acons (.var 2) (.acons (.cst (.str "sum")) .anil)))
    (.seq (.ret (.tup (.acons (.cst (.str "sum")) (.acons (.prim .tuple (.acons (.comp (.nm 3) (.r1 (.prim .len (.acons (.var 1) .anil))) none .anil (.tup (.acons (.prim .idx (.acons (.prim .idx (.acons (.prim .idx (.acons (.var 0) (.acons (.cst (.int 1)) .anil))) (.acons (.var 3) .anil))) (.acons (.cst (.int 0)) .anil))) (.acons (.prim .idx (.acons (.var 1) (.acons (.var 3) .anil))) .anil)))) .anil)) (.acons (.prim .idx (.acons (.var 0) (.acons (.cst (.int 2)) .anil))) .anil)))))
    .nil)
    .nil)
  (.seq (.ite (.prim .in_ (.acons (.var 2) (.acons (.tup (.acons (.cst (.str "all")) (.acons (.cst (.str "some")) .anil))) .anil)))
    (.seq (.ret (.tup (.acons (.var 2) (.acons (.prim .tuple (.acons (.var 1) .anil)) .anil))))
    .nil)
    .nil)
  (.seq (.ret (.prim .add (.acons (.tup (.acons (.var 2) .anil)) (.acons (.prim .tuple (.acons (.var 1) .anil)) .anil))))
  .nil)))))
abbrev d_with_terms : FD := ⟨"with_terms", ["term", "terms"], ["term", "terms", "kind", "at"], top 2, b_with_terms⟩
def b_parts_of : CS :=
  (.seq (.asg (.nm 1) (.lst .anil))
  (.seq (.asg (.nm 2) (.lst (.acons (.var 0) .anil)))
  (.seq (.whil (.prim .gt (.acons (.prim .len (.acons (.var 2) .anil)) (.acons (.cst (.int 0)) .anil)))
    (.seq (.asg (.nm 3) (.prim .pop (.acons (.var 2) .anil)))
    (.seq (.expr (.meth .append (.var 1) (.acons (.var 3) .anil)))
    (.seq (.aug 2 .add (.prim .list (.acons (.prim .rev (.acons (.call 0 (.acons (.var 3) .anil)) .anil)) .anil)))
    .nil))))
  (.seq (.ret (.prim .tuple (.acons (.var 1) .anil)))
  .nil))))
abbrev d_parts_of : FD := ⟨"parts_of", ["term"], ["term", "found", "left", "here"], top 3, b_parts_of⟩
def b_key_of : CS :=
  (.seq (.ret (.prim .repr (.acons (.var 0) .anil)))
  .nil)
abbrev d_key_of : FD := ⟨"key_of", ["term"], ["term"], top 4, b_key_of⟩
def b_unlike_parts : CS :=
  (.seq (.asg (.nm 1) (.prim .dnew .anil))
  (.seq (.asg (.nm 2) (.lst (.acons (.tup (.acons (.var 0) (.acons (.cst (.bl false)) .anil))) .anil)))
  (.seq (.whil (.prim .gt (.acons (.prim .len (.acons (.var 2) .anil)) (.acons (.cst (.int 0)) .anil)))
    (.seq (.asg (.tp [3, 4]) (.prim .pop (.acons (.var 2) .anil)))
    (.seq (.ite (.var 4)
      (.seq (.setIdx (.var 1) (.call 3 (.acons (.var 3) .anil)) (.var 3))
      .nil)
      (.seq (.ite (.prim .dnotin (.acons (.call 3 (.acons (.var 3) .anil)) (.acons (.var 1) .anil)))
        (.seq (.expr (.meth .append (.var 2) (.acons (.tup (.acons (.var 3) (.acons (.cst (.bl true)) .anil))) .anil)))
        (.seq (.aug 2 .add (.comp (.nm 5) (.prim .rev (.acons (.call 0 (.acons (.var 3) .anil)) .anil)) none .anil (.tup (.acons (.var 5) (.acons (.cst (.bl false)) .anil)))))
        .nil))
        .nil)
      .nil))
    .nil)))
  (.seq (.ret (.prim .tuple (.acons (.dvals 1 6) .anil)))
  .nil))))
abbrev d_unlike_parts : FD := ⟨"unlike_parts", ["term"], ["term", "found", "left", "here", "is_open", "own", "key"], top 5, b_unlike_parts⟩
def b_size_of : CS :=
  (.seq (.ret (.prim .len (.acons (.call 2 (.acons (.var 0) .anil)) .anil)))
  .nil)
abbrev d_size_of : FD := ⟨"size_of", ["term"], ["term"], top 6, b_size_of⟩
def b_depth_of : CS :=
  (.seq (.asg (.nm 1) (.cst (.int 0)))
  (.seq (.asg (.nm 2) (.lst (.acons (.var 0) .anil)))
  (.seq (.whil (.prim .gt (.acons (.prim .len (.acons (.var 2) .anil)) (.acons (.cst (.int 0)) .anil)))
    (.seq (.aug 1 .add (.cst (.int 1)))
    (.seq (.asg (.nm 2) (.comp2 (.nm 3) (.var 2) (.nm 4) (.call 0 (.acons (.var 3) .anil)) (.var 4)))
    .nil)))
  (.seq (.ret (.var 1))
  .nil))))
abbrev d_depth_of : FD := ⟨"depth_of", ["term"], ["term", "deep", "level", "here", "own"], top 7, b_depth_of⟩
def b_names_in : CS :=
  (.seq (.ret (.prim .tuple (.acons (.prim .sortedSet (.acons (.comp (.nm 1) (.call 2 (.acons (.var 0) .anil)) (some ()) (.prim .eq (.acons (.prim .idx (.acons (.var 1) (.acons (.cst (.int 0)) .anil))) (.acons (.cst (.str "of")) .anil))) (.prim .idx (.acons (.var 1) (.acons (.cst (.int 1)) .anil)))) .anil)) .anil)))
  .nil)
abbrev d_names_in : FD := ⟨"names_in", ["term"], ["term", "part"], top 8, b_names_in⟩
def b_put_for : CS :=
  (.seq (.ite (.prim .eq (.acons (.var 0) (.acons (.var 1) .anil)))
    (.seq (.ret (.var 2))
    .nil)
    .nil)
  (.seq (.ret (.call 1 (.acons (.var 0) (.acons (.comp (.nm 3) (.call 0 (.acons (.var 0) .anil)) none .anil (.call 8 (.acons (.var 3) (.acons (.var 1) (.acons (.var 2) .anil))))) .anil))))
  .nil))
abbrev d_put_for : FD := ⟨"put_for", ["term", "one", "other"], ["term", "one", "other", "own"], top 9, b_put_for⟩
def b__law_draws : CS :=
  (.seq (.asg (.nm 2) (.prim .add (.acons (.comp (.nm 3) (.var 0) none .anil (.prim .int1 (.acons (.var 3) .anil))) (.acons (.prim .mul (.acons (.lst (.acons (.cst (.int 0)) .anil)) (.acons (.prim .int1 (.acons (.prim .eq (.acons (.prim .len (.acons (.var 0) .anil)) (.acons (.cst (.int 0)) .anil))) .anil)) .anil))) .anil))))
  (.seq (.asg (.nm 4) (.prim .list (.acons (.var 2) .anil)))
  (.seq (.asg (.nm 5) (.lst .anil))
  (.seq (.forr (.nm 6) (.r1 (.var 1))
    (.seq (.asg (.nm 7) (.prim .mod (.acons (.var 6) (.acons (.prim .len (.acons (.var 2) .anil)) .anil))))
    (.seq (.ite (.and_ (.prim .ge (.acons (.prim .idx (.acons (.var 2) (.acons (.var 7) .anil))) (.acons (.prim .pow (.acons (.cst (.int 10)) (.acons (.cst (.int 18)) .anil))) .anil))) (.prim .gt (.acons (.prim .idx (.acons (.var 4) (.acons (.var 7) .anil))) (.acons (.cst (.int 0)) .anil))))
      (.seq (.expr (.meth .append (.var 5) (.acons (.prim .mod (.acons (.prim .int1 (.acons (.prim .idx (.acons (.var 4) (.acons (.var 7) .anil))) .anil)) (.acons (.cst (.int 1000)) .anil))) .anil)))
      (.seq (.setIdx (.var 4) (.var 7) (.prim .fdiv (.acons (.prim .idx (.acons (.var 4) (.acons (.var 7) .anil))) (.acons (.cst (.int 1000)) .anil))))
      .nil))
      (.seq (.asg (.nm 8) (.prim .mod (.acons (.prim .int1 (.acons (.prim .add (.acons (.prim .add (.acons (.prim .mul (.acons (.prim .idx (.acons (.var 2) (.acons (.var 7) .anil))) (.acons (.cst (.int 48271)) .anil))) (.acons (.prim .mul (.acons (.var 6) (.acons (.cst (.int 69621)) .anil))) .anil))) (.acons (.cst (.int 11)) .anil))) .anil)) (.acons (.cst (.int 2147483647)) .anil))))
      (.seq (.expr (.meth .append (.var 5) (.acons (.prim .mod (.acons (.prim .int1 (.acons (.prim .add (.acons (.prim .add (.acons (.prim .mul (.acons (.var 8) (.acons (.var 8) .anil))) (.acons (.prim .mul (.acons (.cst (.int 3)) (.acons (.var 8) .anil))) .anil))) (.acons (.var 6) .anil))) .anil)) (.acons (.cst (.int 1000003)) .anil))) .anil)))
      .nil)))
    .nil)))
  (.seq (.expr (.prim .reverse (.acons (.var 5) .anil)))
  (.seq (.ret (.var 5))
  .nil))))))
abbrev d__law_draws : FD := ⟨"_law_draws", ["script", "many"], ["script", "many", "cells", "cell", "rest", "draws", "k", "at", "once"], top 11, b__law_draws⟩
def b__law_take : CS :=
  (.seq (.ite (.prim .eq (.acons (.prim .len (.acons (.var 0) .anil)) (.acons (.cst (.int 0)) .anil)))
    (.seq (.ret (.cst (.int 0)))
    .nil)
    .nil)
  (.seq (.ret (.prim .mod (.acons (.prim .int1 (.acons (.prim .pop (.acons (.var 0) .anil)) .anil)) (.acons (.var 1) .anil))))
  .nil))
abbrev d__law_take : FD := ⟨"_law_take", ["draws", "many"], ["draws", "many"], top 12, b__law_take⟩
def b__law_same : CS :=
  (.seq (.ite (.prim .is_ (.acons (.var 1) (.acons (.cst .non) .anil)))
    (.seq (.ret (.prim .is_ (.acons (.var 0) (.acons (.cst .non) .anil))))
    .nil)
    .nil)
  (.seq (.ite (.prim (.inst "bool") (.acons (.var 1) .anil))
    (.seq (.ret (.and_ (.prim (.inst "bool") (.acons (.var 0) .anil)) (.prim .eq (.acons (.var 0) (.acons (.var 1) .anil)))))
    .nil)
    .nil)
  (.seq (.ite (.prim (.inst "int") (.acons (.var 1) .anil))
    (.seq (.ret (.and_ (.prim (.inst "int") (.acons (.var 0) .anil)) (.and_ (.not_ (.prim (.inst "bool") (.acons (.var 0) .anil))) (.prim .eq (.acons (.var 0) (.acons (.var 1) .anil))))))
    .nil)
    .nil)
  (.seq (.ite (.prim (.inst "str") (.acons (.var 1) .anil))
    (.seq (.ret (.and_ (.prim (.inst "str") (.acons (.var 0) .anil)) (.prim .eq (.acons (.var 0) (.acons (.var 1) .anil)))))
    .nil)
    .nil)
  (.seq (.ite (.or_ (.not_ (.prim (.inst "tuple") (.acons (.var 0) .anil))) (.prim .ne (.acons (.prim .len (.acons (.var 0) .anil)) (.acons (.prim .len (.acons (.var 1) .anil)) .anil))))
    (.seq (.ret (.cst (.bl false)))
    .nil)
    .nil)
  (.seq (.forr (.nm 2) (.r1 (.prim .len (.acons (.var 1) .anil)))
    (.seq (.ite (.not_ (.call 11 (.acons (.prim .idx (.acons (.var 0) (.acons (.var 2) .anil))) (.acons (.prim .idx (.acons (.var 1) (.acons (.var 2) .anil))) .anil))))
      (.seq (.ret (.cst (.bl false)))
      .nil)
      .nil)
    .nil))
  (.seq (.ret (.cst (.bl true)))
  .nil)))))))
abbrev d__law_same : FD := ⟨"_law_same", ["actual", "due"], ["actual", "due", "k"], top 13, b__law_same⟩
def b__law_order : CS :=
  (.seq (.asg (.nm 2) (.prim .lrng (.acons (.var 1) .anil)))
  (.seq (.asg (.nm 3) (.lst .anil))
  (.seq (.forr (.nm 4) (.r1 (.var 1))
    (.seq (.expr (.meth .append (.var 3) (.acons (.meth .popAt (.var 2) (.acons (.call 10 (.acons (.var 0) (.acons (.prim .len (.acons (.var 2) .anil)) .anil))) .anil)) .anil)))
    .nil))
  (.seq (.ret (.prim .tuple (.acons (.var 3) .anil)))
  .nil))))
abbrev d__law_order : FD := ⟨"_law_order", ["draws", "many"], ["draws", "many", "left", "found", "k"], top 14, b__law_order⟩
def b__law_shuffled : CS :=
  (.seq (.ret (.prim .tuple (.acons (.comp (.nm 2) (.call 12 (.acons (.var 0) (.acons (.prim .len (.acons (.var 1) .anil)) .anil))) none .anil (.prim .idx (.acons (.var 1) (.acons (.var 2) .anil)))) .anil)))
  .nil)
abbrev d__law_shuffled : FD := ⟨"_law_shuffled", ["draws", "row"], ["draws", "row", "k"], top 15, b__law_shuffled⟩
def b__law_signature : CS :=
  (.seq (.asg (.nm 1) (.lst .anil))
  (.seq (.forr (.nm 2) (.r1 (.prim .add (.acons (.cst (.int 1)) (.acons (.call 10 (.acons (.var 0) (.acons (.cst (.int 2)) .anil))) .anil))))
    (.seq (.expr (.meth .append (.var 1) (.acons (.tup (.acons (.prim .idx (.acons (.lst (.acons (.cst (.str "p")) (.acons (.cst (.str "q")) .anil))) (.acons (.var 2) .anil))) (.acons (.tup .anil) (.acons (.cst (.str "truth")) (.acons (.cst .non) (.acons (.cst .non) .anil)))))) .anil)))
    .nil))
  (.seq (.forr (.nm 2) (.r1 (.prim .add (.acons (.cst (.int 1)) (.acons (.call 10 (.acons (.var 0) (.acons (.cst (.int 2)) .anil))) .anil))))
    (.seq (.asg (.nm 3) (.prim .sub (.acons (.call 10 (.acons (.var 0) (.acons (.cst (.int 5)) .anil))) (.acons (.cst (.int 2)) .anil))))
    (.seq (.expr (.meth .append (.var 1) (.acons (.tup (.acons (.prim .idx (.acons (.lst (.acons (.cst (.str "x")) (.acons (.cst (.str "y2")) .anil))) (.acons (.var 2) .anil))) (.acons (.tup .anil) (.acons (.cst (.str "whole")) (.acons (.var 3) (.acons (.prim .add (.acons (.var 3) (.acons (.call 10 (.acons (.var 0) (.acons (.cst (.int 4)) .anil))) .anil))) .anil)))))) .anil)))
    .nil)))
  (.seq (.ite (.prim .gt (.acons (.call 10 (.acons (.var 0) (.acons (.cst (.int 3)) .anil))) (.acons (.cst (.int 0)) .anil)))
    (.seq (.forr (.nm 2) (.r1 (.prim .add (.acons (.cst (.int 1)) (.acons (.call 10 (.acons (.var 0) (.acons (.cst (.int 2)) .anil))) .anil))))
      (.seq (.expr (.meth .append (.var 1) (.acons (.tup (.acons (.prim .idx (.acons (.lst (.acons (.cst (.str "a")) (.acons (.cst (.str "b")) .anil))) (.acons (.var 2) .anil))) (.acons (.tup .anil) (.acons (.cst (.str "thing")) (.acons (.cst .non) (.acons (.cst .non) .anil)))))) .anil)))
      .nil))
    (.seq (.ite (.prim .eq (.acons (.call 10 (.acons (.var 0) (.acons (.cst (.int 2)) .anil))) (.acons (.cst (.int 0)) .anil)))
      (.seq (.expr (.meth .append (.var 1) (.acons (.tup (.acons (.cst (.str "g")) (.acons (.tup (.acons (.cst (.str "thing")) .anil)) (.acons (.cst (.str "thing")) (.acons (.cst .non) (.acons (.cst .non) .anil)))))) .anil)))
      .nil)
      .nil)
    (.seq (.ite (.prim .eq (.acons (.call 10 (.acons (.var 0) (.acons (.cst (.int 2)) .anil))) (.acons (.cst (.int 0)) .anil)))
      (.seq (.expr (.meth .append (.var 1) (.acons (.tup (.acons (.cst (.str "near")) (.acons (.prim .idx (.acons (.tup (.acons (.lst (.acons (.cst (.str "thing")) (.acons (.cst (.str "thing")) .anil))) (.acons (.lst (.acons (.cst (.str "thing")) (.acons (.cst (.str "whole")) .anil))) (.acons (.lst (.acons (.cst (.str "thing")) .anil)) .anil)))) (.acons (.call 10 (.acons (.var 0) (.acons (.cst (.int 3)) .anil))) .anil))) (.acons (.cst (.str "truth")) (.acons (.cst .non) (.acons (.cst .non) .anil)))))) .anil)))
      (.seq (.setIdx (.var 1) (.prim .neg (.acons (.cst (.int 1)) .anil)) (.prim .add (.acons (.tup (.acons (.prim .idx (.acons (.prim .idx (.acons (.var 1) (.acons (.prim .neg (.acons (.cst (.int 1)) .anil)) .anil))) (.acons (.cst (.int 0)) .anil))) (.acons (.prim .tuple (.acons (.prim .idx (.acons (.prim .idx (.acons (.var 1) (.acons (.prim .neg (.acons (.cst (.int 1)) .anil)) .anil))) (.acons (.cst (.int 1)) .anil))) .anil)) .anil))) (.acons (.prim .slLo (.acons (.prim .idx (.acons (.var 1) (.acons (.prim .neg (.acons (.cst (.int 1)) .anil)) .anil))) (.acons (.cst (.int 2)) .anil))) .anil))))
      .nil))
      .nil)
    .nil)))
    .nil)
  (.seq (.ite (.prim .eq (.acons (.call 10 (.acons (.var 0) (.acons (.cst (.int 2)) .anil))) (.acons (.cst (.int 0)) .anil)))
    (.seq (.asg (.nm 3) (.prim .sub (.acons (.call 10 (.acons (.var 0) (.acons (.cst (.int 4)) .anil))) (.acons (.cst (.int 2)) .anil))))
    (.seq (.expr (.meth .append (.var 1) (.acons (.tup (.acons (.cst (.str "far")) (.acons (.prim .idx (.acons (.tup (.acons (.tup (.acons (.cst (.str "whole")) .anil)) (.acons (.tup (.acons (.cst (.str "whole")) (.acons (.cst (.str "whole")) .anil))) .anil))) (.acons (.call 10 (.acons (.var 0) (.acons (.cst (.int 2)) .anil))) .anil))) (.acons (.cst (.str "whole")) (.acons (.var 3) (.acons (.prim .add (.acons (.prim .add (.acons (.var 3) (.acons (.cst (.int 1)) .anil))) (.acons (.call 10 (.acons (.var 0) (.acons (.cst (.int 3)) .anil))) .anil))) .anil)))))) .anil)))
    .nil))
    .nil)
  (.seq (.ret (.prim .slHi (.acons (.call 13 (.acons (.var 0) (.acons (.var 1) .anil))) (.acons (.cst (.int 8)) .anil))))
  .nil))))))
abbrev d__law_signature : FD := ⟨"_law_signature", ["draws"], ["draws", "found", "k", "low"], top 16, b__law_signature⟩
def b__law_pick : CS :=
  (.seq (.ret (.prim .idx (.acons (.var 1) (.acons (.prim .idx (.acons (.lst (.acons (.call 10 (.acons (.var 0) (.acons (.prim .len (.acons (.var 1) .anil)) .anil))) (.acons (.prim .sub (.acons (.prim .sub (.acons (.prim .len (.acons (.var 1) .anil)) (.acons (.cst (.int 1)) .anil))) (.acons (.call 10 (.acons (.var 0) (.acons (.prim .min2 (.acons (.prim .len (.acons (.var 1) .anil)) (.acons (.cst (.int 4)) .anil))) .anil))) .anil))) .anil))) (.acons (.call 10 (.acons (.var 0) (.acons (.cst (.int 2)) .anil))) .anil))) .anil))))
  .nil)
abbrev d__law_pick : FD := ⟨"_law_pick", ["draws", "terms"], ["draws", "terms"], top 17, b__law_pick⟩
def b__law_inside : CS :=
  (.seq (.ite (.prim .eq (.acons (.prim .idx (.acons (.var 0) (.acons (.cst (.int 0)) .anil))) (.acons (.cst (.str "of")) .anil)))
    (.seq (.ret (.prim .list (.acons (.prim .idx (.acons (.var 0) (.acons (.cst (.int 2)) .anil))) .anil)))
    .nil)
    .nil)
  (.seq (.ite (.prim .eq (.acons (.prim .idx (.acons (.var 0) (.acons (.cst (.int 0)) .anil))) (.acons (.cst (.str "sum")) .anil)))
    (.seq (.ret (.comp (.tp [1, 2]) (.prim .idx (.acons (.var 0) (.acons (.cst (.int 1)) .anil))) none .anil (.var 2)))
    .nil)
    .nil)
  (.seq (.ite (.prim .in_ (.acons (.prim .idx (.acons (.var 0) (.acons (.cst (.int 0)) .anil))) (.acons (.tup (.acons (.cst (.str "all")) (.acons (.cst (.str "some")) .anil))) .anil)))
    (.seq (.ret (.prim .list (.acons (.prim .idx (.acons (.var 0) (.acons (.cst (.int 1)) .anil))) .anil)))
    .nil)
    .nil)
  (.seq (.ret (.prim .list (.acons (.prim .slLo (.acons (.var 0) (.acons (.cst (.int 1)) .anil))) .anil)))
  .nil))))
abbrev d__law_inside : FD := ⟨"_law_inside", ["term"], ["term", "factor", "own"], top 18, b__law_inside⟩
def b__law_parts : CS :=
  (.seq (.asg (.nm 1) (.lst .anil))
  (.seq (.asg (.nm 2) (.lst (.acons (.var 0) .anil)))
  (.seq (.forr (.nm 3) (.r1 (.cst (.int 100000)))
    (.seq (.ite (.prim .eq (.acons (.prim .len (.acons (.var 2) .anil)) (.acons (.cst (.int 0)) .anil)))
      (.seq .brk
      .nil)
      .nil)
    (.seq (.asg (.nm 4) (.prim .pop (.acons (.var 2) .anil)))
    (.seq (.expr (.meth .append (.var 1) (.acons (.var 4) .anil)))
    (.seq (.asg (.nm 2) (.prim .add (.acons (.var 2) (.acons (.prim .rev (.acons (.call 16 (.acons (.var 4) .anil)) .anil)) .anil))))
    .nil)))))
  (.seq (.ret (.var 1))
  .nil))))
abbrev d__law_parts : FD := ⟨"_law_parts", ["term"], ["term", "found", "left", "turn", "here"], top 19, b__law_parts⟩
def b__law_new : CS :=
  (.seq (.asg (.nm 3) (.comp (.nm 4) (.lst (.acons (.cst (.str "truth")) (.acons (.cst (.str "whole")) (.acons (.cst (.str "thing")) .anil)))) (some ()) (.prim .gt (.acons (.prim .len (.acons (.prim .dget (.acons (.var 2) (.acons (.var 4) .anil))) .anil)) (.acons (.cst (.int 0)) .anil))) (.var 4)))
  (.seq (.asg (.nm 5) (.call 10 (.acons (.var 0) (.acons (.cst (.int 10)) .anil))))
  (.seq (.asg (.nm 4) (.prim .idx (.acons (.var 3) (.acons (.call 10 (.acons (.var 0) (.acons (.prim .len (.acons (.var 3) .anil)) .anil))) .anil))))
  (.seq (.ite (.prim .lt (.acons (.var 5) (.acons (.cst (.int 2)) .anil)))
    (.seq (.asg (.nm 6) (.comp (.nm 7) (.var 1) (some ()) (.and_ (.prim .gt (.acons (.prim .len (.acons (.prim .idx (.acons (.var 7) (.acons (.cst (.int 1)) .anil))) .anil)) (.acons (.cst (.int 0)) .anil))) (.prim .eq (.acons (.prim .len (.acons (.comp (.nm 8) (.prim .idx (.acons (.var 7) (.acons (.cst (.int 1)) .anil))) (some ()) (.prim .eq (.acons (.prim .len (.acons (.prim .dget (.acons (.var 2) (.acons (.var 8) .anil))) .anil)) (.acons (.cst (.int 0)) .anil))) (.var 8)) .anil)) (.acons (.cst (.int 0)) .anil)))) (.var 7)))
    (.seq (.ite (.prim .eq (.acons (.prim .len (.acons (.var 6) .anil)) (.acons (.cst (.int 0)) .anil)))
      (.seq (.ret (.tup (.acons (.cst (.str "truth")) (.acons (.tup (.acons (.cst (.str "yes")) .anil)) .anil))))
      .nil)
      .nil)
    (.seq (.asg (.tp [9, 10, 4, 11, 12]) (.prim .idx (.acons (.var 6) (.acons (.call 10 (.acons (.var 0) (.acons (.prim .len (.acons (.var 6) .anil)) .anil))) .anil))))
    (.seq (.ret (.tup (.acons (.var 4) (.acons (.tup (.acons (.cst (.str "of")) (.acons (.var 9) (.acons (.prim .tuple (.acons (.comp (.nm 8) (.var 10) none .anil (.call 15 (.acons (.var 0) (.acons (.prim .dget (.acons (.var 2) (.acons (.var 8) .anil))) .anil)))) .anil)) .anil)))) .anil))))
    .nil))))
    .nil)
  (.seq (.ite (.prim .eq (.acons (.var 5) (.acons (.cst (.int 2)) .anil)))
    (.seq (.asg (.nm 13) (.prim .tuple (.acons (.comp (.nm 14) (.r1 (.call 10 (.acons (.var 0) (.acons (.cst (.int 4)) .anil)))) none .anil (.tup (.acons (.prim .sub (.acons (.call 10 (.acons (.var 0) (.acons (.cst (.int 7)) .anil))) (.acons (.cst (.int 3)) .anil))) (.acons (.call 15 (.acons (.var 0) (.acons (.prim .dget (.acons (.var 2) (.acons (.cst (.str "whole")) .anil))) .anil))) .anil)))) .anil)))
    (.seq (.ret (.tup (.acons (.cst (.str "whole")) (.acons (.tup (.acons (.cst (.str "sum")) (.acons (.var 13) (.acons (.prim .sub (.acons (.call 10 (.acons (.var 0) (.acons (.cst (.int 9)) .anil))) (.acons (.cst (.int 4)) .anil))) .anil)))) .anil))))
    .nil))
    .nil)
  (.seq (.ite (.prim .eq (.acons (.var 5) (.acons (.cst (.int 3)) .anil)))
    (.seq (.ret (.tup (.acons (.cst (.str "truth")) (.acons (.tup (.acons (.cst (.str "most")) (.acons (.call 15 (.acons (.var 0) (.acons (.prim .dget (.acons (.var 2) (.acons (.cst (.str "whole")) .anil))) .anil))) (.acons (.call 15 (.acons (.var 0) (.acons (.prim .dget (.acons (.var 2) (.acons (.cst (.str "whole")) .anil))) .anil))) .anil)))) .anil))))
    .nil)
    .nil)
  (.seq (.ite (.prim .eq (.acons (.var 5) (.acons (.cst (.int 4)) .anil)))
    (.seq (.ret (.tup (.acons (.cst (.str "truth")) (.acons (.tup (.acons (.cst (.str "same")) (.acons (.call 15 (.acons (.var 0) (.acons (.prim .dget (.acons (.var 2) (.acons (.var 4) .anil))) .anil))) (.acons (.call 15 (.acons (.var 0) (.acons (.prim .dget (.acons (.var 2) (.acons (.var 4) .anil))) .anil))) .anil)))) .anil))))
    .nil)
    .nil)
  (.seq (.ite (.prim .eq (.acons (.var 5) (.acons (.cst (.int 5)) .anil)))
    (.seq (.ret (.tup (.acons (.cst (.str "truth")) (.acons (.tup (.acons (.cst (.str "not")) (.acons (.call 15 (.acons (.var 0) (.acons (.prim .dget (.acons (.var 2) (.acons (.cst (.str "truth")) .anil))) .anil))) .anil))) .anil))))
    .nil)
    .nil)
  (.seq (.ite (.prim .lt (.acons (.var 5) (.acons (.cst (.int 8)) .anil)))
    (.seq (.ret (.tup (.acons (.cst (.str "truth")) (.acons (.tup (.acons (.prim .idx (.acons (.lst (.acons (.cst (.str "all")) (.acons (.cst (.str "some")) .anil))) (.acons (.prim .sub (.acons (.var 5) (.acons (.cst (.int 6)) .anil))) .anil))) (.acons (.prim .tuple (.acons (.comp (.nm 14) (.r1 (.call 10 (.acons (.var 0) (.acons (.cst (.int 4)) .anil)))) none .anil (.call 15 (.acons (.var 0) (.acons (.prim .dget (.acons (.var 2) (.acons (.cst (.str "truth")) .anil))) .anil)))) .anil)) .anil))) .anil))))
    .nil)
    .nil)
  (.seq (.ret (.tup (.acons (.var 4) (.acons (.tup (.acons (.cst (.str "if")) (.acons (.call 15 (.acons (.var 0) (.acons (.prim .dget (.acons (.var 2) (.acons (.cst (.str "truth")) .anil))) .anil))) (.acons (.call 15 (.acons (.var 0) (.acons (.prim .dget (.acons (.var 2) (.acons (.var 4) .anil))) .anil))) (.acons (.call 15 (.acons (.var 0) (.acons (.prim .dget (.acons (.var 2) (.acons (.var 4) .anil))) .anil))) .anil))))) .anil))))
  .nil))))))))))
abbrev d__law_new : FD := ⟨"_law_new", ["draws", "signature", "pool"], ["draws", "signature", "pool", "sorts", "sort", "kind", "there", "own", "arg", "name", "args", "low", "high", "items", "k"], top 20, b__law_new⟩
def b__law_pool : CS :=
  (.seq (.ret (.call 21 (.acons (.var 0) (.acons (.var 1) (.acons (.var 2) (.acons (.cst (.int 40)) (.acons (.cst (.int 5)) .anil)))))))
  .nil)
abbrev d__law_pool : FD := ⟨"_law_pool", ["draws", "signature", "many"], ["draws", "signature", "many"], top 21, b__law_pool⟩
def b__law_fits : CS :=
  (.seq (.asg (.nm 1) (.call 17 (.acons (.var 0) .anil)))
  (.seq (.asg (.nm 2) (.prim .dnew .anil))
  (.seq (.forr (.nm 3) (.prim .rev (.acons (.var 1) .anil))
    (.seq (.setIdx (.var 2) (.prim .repr (.acons (.var 3) .anil)) (.prim .add (.acons (.cst (.int 1)) (.acons (.prim .maxL (.acons (.prim .add (.acons (.lst (.acons (.cst (.int 0)) .anil)) (.acons (.comp (.nm 4) (.call 16 (.acons (.var 3) .anil)) none .anil (.prim .dget (.acons (.var 2) (.acons (.prim .repr (.acons (.var 4) .anil)) .anil)))) .anil))) .anil)) .anil))))
    .nil))
  (.seq (.ret (.and_ (.prim .le (.acons (.prim .len (.acons (.var 1) .anil)) (.acons (.cst (.int 60)) .anil))) (.prim .le (.acons (.prim .dget (.acons (.var 2) (.acons (.prim .repr (.acons (.var 0) .anil)) .anil))) (.acons (.cst (.int 6)) .anil)))))
  .nil))))
abbrev d__law_fits : FD := ⟨"_law_fits", ["term"], ["term", "parts", "deep", "part", "own"], top 22, b__law_fits⟩
def b__law_terms : CS :=
  (.seq (.asg (.nm 5) (.disp [.inr "truth", .inr "whole", .inr "thing"] (.acons (.lst (.acons (.tup (.acons (.cst (.str "yes")) .anil)) (.acons (.tup (.acons (.cst (.str "no")) .anil)) .anil))) (.acons (.lst (.acons (.tup (.acons (.cst (.str "sum")) (.acons (.tup .anil) (.acons (.prim .sub (.acons (.call 10 (.acons (.var 0) (.acons (.cst (.int 7)) .anil))) (.acons (.cst (.int 3)) .anil))) .anil)))) .anil)) (.acons (.lst .anil) .anil)))))
  (.seq (.asg (.nm 6) (.prim .dnew .anil))
  (.seq (.forr (.nm 7) (.prim .add (.acons (.prim .dget (.acons (.var 5) (.acons (.cst (.str "truth")) .anil))) (.acons (.prim .dget (.acons (.var 5) (.acons (.cst (.str "whole")) .anil))) .anil)))
    (.seq (.setIdx (.var 6) (.prim .repr (.acons (.var 7) .anil)) (.tup (.acons (.cst (.int 1)) (.acons (.cst (.int 1)) .anil))))
    .nil))
  (.seq (.forr (.tp [8, 9, 10, 11, 12]) (.var 1)
    (.seq (.ite (.prim .eq (.acons (.prim .len (.acons (.var 9) .anil)) (.acons (.cst (.int 0)) .anil)))
      (.seq (.expr (.meth .append (.prim .dget (.acons (.var 5) (.acons (.var 10) .anil))) (.acons (.tup (.acons (.cst (.str "of")) (.acons (.var 8) (.acons (.tup .anil) .anil)))) .anil)))
      (.seq (.setIdx (.var 6) (.prim .repr (.acons (.tup (.acons (.cst (.str "of")) (.acons (.var 8) (.acons (.tup .anil) .anil)))) .anil)) (.tup (.acons (.cst (.int 1)) (.acons (.cst (.int 1)) .anil))))
      .nil))
      .nil)
    .nil))
  (.seq (.forr (.nm 13) (.r1 (.var 2))
    (.seq (.asg (.tp [10, 7]) (.call 18 (.acons (.var 0) (.acons (.var 1) (.acons (.var 5) .anil)))))
    (.seq (.asg (.nm 14) (.comp (.nm 15) (.call 16 (.acons (.var 7) .anil)) none .anil (.prim .dget (.acons (.var 6) (.acons (.prim .repr (.acons (.var 15) .anil)) .anil)))))
    (.seq (.asg (.nm 16) (.prim .add (.acons (.cst (.int 1)) (.acons (.prim .sum (.acons (.comp (.nm 15) (.var 14) none .anil (.prim .idx (.acons (.var 15) (.acons (.cst (.int 0)) .anil)))) .anil)) .anil))))
    (.seq (.asg (.nm 17) (.prim .add (.acons (.cst (.int 1)) (.acons (.prim .maxL (.acons (.prim .add (.acons (.lst (.acons (.cst (.int 0)) .anil)) (.acons (.comp (.nm 15) (.var 14) none .anil (.prim .idx (.acons (.var 15) (.acons (.cst (.int 1)) .anil)))) .anil))) .anil)) .anil))))
    (.seq (.ite (.and_ (.prim .le (.acons (.var 16) (.acons (.var 3) .anil))) (.and_ (.prim .le (.acons (.var 17) (.acons (.var 4) .anil))) (.prim .dnotin (.acons (.prim .repr (.acons (.var 7) .anil)) (.acons (.var 6) .anil)))))
      (.seq (.setIdx (.var 6) (.prim .repr (.acons (.var 7) .anil)) (.tup (.acons (.var 16) (.acons (.var 17) .anil))))
      (.seq (.expr (.meth .append (.prim .dget (.acons (.var 5) (.acons (.var 10) .anil))) (.acons (.var 7) .anil)))
      .nil))
      .nil)
    .nil))))))
  (.seq (.ret (.var 5))
  .nil))))))
abbrev d__law_terms : FD := ⟨"_law_terms", ["draws", "signature", "many", "most", "deepest"], ["draws", "signature", "many", "most", "deepest", "pool", "sizes", "term", "name", "args", "sort", "low", "high", "turn", "inside", "own", "size", "deep"], top 23, b__law_terms⟩
def b__law_unlike : CS :=
  (.seq (.asg (.nm 1) (.prim .dnew .anil))
  (.seq (.forr (.nm 2) (.prim .rev (.acons (.call 17 (.acons (.var 0) .anil)) .anil))
    (.seq (.asg (.nm 3) (.lst .anil))
    (.seq (.forr (.nm 4) (.call 16 (.acons (.var 2) .anil))
      (.seq (.asg (.nm 3) (.prim .add (.acons (.var 3) (.acons (.comp (.nm 5) (.prim .dget (.acons (.var 1) (.acons (.prim .repr (.acons (.var 4) .anil)) .anil))) (some ()) (.prim .notinD (.acons (.var 5) (.acons (.var 3) .anil))) (.var 5)) .anil))))
      .nil))
    (.seq (.setIdx (.var 1) (.prim .repr (.acons (.var 2) .anil)) (.prim .add (.acons (.var 3) (.acons (.lst (.acons (.var 2) .anil)) .anil))))
    .nil))))
  (.seq (.ret (.prim .tuple (.acons (.prim .dget (.acons (.var 1) (.acons (.prim .repr (.acons (.var 0) .anil)) .anil))) .anil)))
  .nil)))
abbrev d__law_unlike : FD := ⟨"_law_unlike", ["term"], ["term", "rows", "part", "row", "own", "other"], top 24, b__law_unlike⟩
def b__law_put_in : CS :=
  (.seq (.asg (.nm 3) (.prim .dnew .anil))
  (.seq (.forr (.nm 4) (.prim .rev (.acons (.call 17 (.acons (.var 0) .anil)) .anil))
    (.seq (.asg (.nm 5) (.comp (.nm 6) (.call 16 (.acons (.var 4) .anil)) none .anil (.prim .dget (.acons (.var 3) (.acons (.prim .repr (.acons (.var 6) .anil)) .anil)))))
    (.seq (.ite (.prim .eq (.acons (.var 4) (.acons (.var 1) .anil)))
      (.seq (.setIdx (.var 3) (.prim .repr (.acons (.var 4) .anil)) (.var 2))
      .nil)
      (.seq (.ite (.prim .eq (.acons (.prim .idx (.acons (.var 4) (.acons (.cst (.int 0)) .anil))) (.acons (.cst (.str "of")) .anil)))
        (.seq (.setIdx (.var 3) (.prim .repr (.acons (.var 4) .anil)) (.tup (.acons (.cst (.str "of")) (.acons (.prim .idx (.acons (.var 4) (.acons (.cst (.int 1)) .anil))) (.acons (.prim .tuple (.acons (.var 5) .anil)) .anil)))))
        .nil)
        (.seq (.ite (.prim .eq (.acons (.prim .idx (.acons (.var 4) (.acons (.cst (.int 0)) .anil))) (.acons (.cst (.str "sum")) .anil)))
          (.seq (.setIdx (.var 3) (.prim .repr (.acons (.var 4) .anil)) (.tup (.acons (.cst (.str "sum")) (.acons (.prim .tuple (.acons (.comp (.nm 7) (.r1 (.prim .len (.acons (.var 5) .anil))) none .anil (.tup (.acons (.prim .idx (.acons (.prim .idx (.acons (.prim .idx (.acons (.var 4) (.acons (.cst (.int 1)) .anil))) (.acons (.var 7) .anil))) (.acons (.cst (.int 0)) .anil))) (.acons (.prim .idx (.acons (.var 5) (.acons (.var 7) .anil))) .anil)))) .anil)) (.acons (.prim .idx (.acons (.var 4) (.acons (.cst (.int 2)) .anil))) .anil)))))
          .nil)
          (.seq (.ite (.prim .in_ (.acons (.prim .idx (.acons (.var 4) (.acons (.cst (.int 0)) .anil))) (.acons (.tup (.acons (.cst (.str "all")) (.acons (.cst (.str "some")) .anil))) .anil)))
            (.seq (.setIdx (.var 3) (.prim .repr (.acons (.var 4) .anil)) (.tup (.acons (.prim .idx (.acons (.var 4) (.acons (.cst (.int 0)) .anil))) (.acons (.prim .tuple (.acons (.var 5) .anil)) .anil))))
            .nil)
            (.seq (.setIdx (.var 3) (.prim .repr (.acons (.var 4) .anil)) (.prim .add (.acons (.tup (.acons (.prim .idx (.acons (.var 4) (.acons (.cst (.int 0)) .anil))) .anil)) (.acons (.prim .tuple (.acons (.var 5) .anil)) .anil))))
            .nil))
          .nil))
        .nil))
      .nil))
    .nil)))
  (.seq (.ret (.prim .dget (.acons (.var 3) (.acons (.prim .repr (.acons (.var 0) .anil)) .anil))))
  .nil)))
abbrev d__law_put_in : FD := ⟨"_law_put_in", ["term", "one", "other"], ["term", "one", "other", "told", "part", "inside", "own", "k"], top 25, b__law_put_in⟩
def b__law_is_term_right : CS :=
  (.seq (.asg (.nm 3) (.call 17 (.acons (.var 2) .anil)))
  (.seq (.asg (.nm 4) (.prim .dnew .anil))
  (.seq (.forr (.nm 5) (.prim .rev (.acons (.var 3) .anil))
    (.seq (.setIdx (.var 4) (.prim .repr (.acons (.var 5) .anil)) (.prim .add (.acons (.cst (.int 1)) (.acons (.prim .maxL (.acons (.prim .add (.acons (.lst (.acons (.cst (.int 0)) .anil)) (.acons (.comp (.nm 6) (.call 16 (.acons (.var 5) .anil)) none .anil (.prim .dget (.acons (.var 4) (.acons (.prim .repr (.acons (.var 6) .anil)) .anil)))) .anil))) .anil)) .anil))))
    .nil))
  (.seq (.ite (.or_ (.not_ (.call 11 (.acons (.call 2 (.acons (.var 2) .anil)) (.acons (.prim .tuple (.acons (.var 3) .anil)) .anil)))) (.or_ (.not_ (.call 11 (.acons (.call 5 (.acons (.var 2) .anil)) (.acons (.prim .len (.acons (.var 3) .anil)) .anil)))) (.not_ (.call 11 (.acons (.call 6 (.acons (.var 2) .anil)) (.acons (.prim .dget (.acons (.var 4) (.acons (.prim .repr (.acons (.var 2) .anil)) .anil))) .anil))))))
    (.seq (.ret (.cst (.bl false)))
    .nil)
    .nil)
  (.seq (.ite (.or_ (.not_ (.call 11 (.acons (.call 4 (.acons (.var 2) .anil)) (.acons (.call 22 (.acons (.var 2) .anil)) .anil)))) (.not_ (.call 11 (.acons (.call 7 (.acons (.var 2) .anil)) (.acons (.prim .tuple (.acons (.prim .sortedSet (.acons (.comp (.nm 5) (.var 3) (some ()) (.prim .eq (.acons (.prim .idx (.acons (.var 5) (.acons (.cst (.int 0)) .anil))) (.acons (.cst (.str "of")) .anil))) (.prim .idx (.acons (.var 5) (.acons (.cst (.int 1)) .anil)))) .anil)) .anil)) .anil)))))
    (.seq (.ret (.cst (.bl false)))
    .nil)
    .nil)
  (.seq (.ite (.or_ (.prim .ne (.acons (.call 5 (.acons (.var 2) .anil)) (.acons (.prim .add (.acons (.cst (.int 1)) (.acons (.prim .sum (.acons (.comp (.nm 6) (.call 16 (.acons (.var 2) .anil)) none .anil (.call 5 (.acons (.var 6) .anil))) .anil)) .anil))) .anil))) (.prim .ne (.acons (.prim .sortedSet (.acons (.comp (.nm 6) (.call 4 (.acons (.var 2) .anil)) none .anil (.prim .repr (.acons (.var 6) .anil))) .anil)) (.acons (.prim .sortedSet (.acons (.comp (.nm 6) (.var 3) none .anil (.prim .repr (.acons (.var 6) .anil))) .anil)) .anil))))
    (.seq (.ret (.cst (.bl false)))
    .nil)
    .nil)
  (.seq (.asg (.nm 7) (.prim .idx (.acons (.var 3) (.acons (.call 10 (.acons (.var 0) (.acons (.prim .len (.acons (.var 3) .anil)) .anil))) .anil))))
  (.seq (.forr (.nm 8) (.lst (.acons (.tup (.acons (.cst (.str "of")) (.acons (.cst (.str "zz")) (.acons (.tup .anil) .anil)))) (.acons (.var 7) (.acons (.tup (.acons (.cst (.str "if")) (.acons (.call 15 (.acons (.var 0) (.acons (.prim .dget (.acons (.var 1) (.acons (.cst (.str "truth")) .anil))) .anil))) (.acons (.var 7) (.acons (.var 7) .anil))))) .anil))))
    (.seq (.ite (.and_ (.call 20 (.acons (.call 23 (.acons (.var 2) (.acons (.var 7) (.acons (.var 8) .anil)))) .anil)) (.not_ (.call 11 (.acons (.call 8 (.acons (.var 2) (.acons (.var 7) (.acons (.var 8) .anil)))) (.acons (.call 23 (.acons (.var 2) (.acons (.var 7) (.acons (.var 8) .anil)))) .anil)))))
      (.seq (.ret (.cst (.bl false)))
      .nil)
      .nil)
    .nil))
  (.seq (.ite (.or_ (.prim .ne (.acons (.call 8 (.acons (.var 2) (.acons (.tup (.acons (.cst (.str "of")) (.acons (.cst (.str "zz")) (.acons (.tup .anil) .anil)))) (.acons (.var 7) .anil)))) (.acons (.var 2) .anil))) (.prim .ne (.acons (.call 8 (.acons (.call 8 (.acons (.var 2) (.acons (.var 7) (.acons (.tup (.acons (.cst (.str "of")) (.acons (.cst (.str "zz")) (.acons (.tup .anil) .anil)))) .anil)))) (.acons (.tup (.acons (.cst (.str "of")) (.acons (.cst (.str "zz")) (.acons (.tup .anil) .anil)))) (.acons (.var 7) .anil)))) (.acons (.var 2) .anil))))
    (.seq (.ret (.cst (.bl false)))
    .nil)
    .nil)
  (.seq (.ret (.prim .eq (.acons (.prim .len (.acons (.comp (.nm 6) (.call 2 (.acons (.call 8 (.acons (.var 2) (.acons (.var 7) (.acons (.tup (.acons (.cst (.str "of")) (.acons (.cst (.str "zz")) (.acons (.tup .anil) .anil)))) .anil)))) .anil)) (some ()) (.prim .eq (.acons (.var 6) (.acons (.var 7) .anil))) (.var 6)) .anil)) (.acons (.cst (.int 0)) .anil))))
  .nil))))))))))
abbrev d__law_is_term_right : FD := ⟨"_law_is_term_right", ["draws", "pool", "term"], ["draws", "pool", "term", "parts", "deep", "part", "own", "one", "other"], top 26, b__law_is_term_right⟩
def b_law : CS :=
  (.seq (.asg (.nm 1) (.call 9 (.acons (.var 0) (.acons (.cst (.int 400)) .anil))))
  (.seq (.asg (.nm 2) (.call 14 (.acons (.var 1) .anil)))
  (.seq (.asg (.nm 3) (.call 19 (.acons (.var 1) (.acons (.var 2) (.acons (.cst (.int 16)) .anil)))))
  (.seq (.forr (.nm 4) (.lst (.acons (.cst (.str "truth")) (.acons (.cst (.str "whole")) (.acons (.cst (.str "thing")) .anil))))
    (.seq (.forr (.nm 5) (.prim .slLo (.acons (.prim .dget (.acons (.var 3) (.acons (.var 4) .anil))) (.acons (.prim .neg (.acons (.cst (.int 8)) .anil)) .anil)))
      (.seq (.ite (.not_ (.call 24 (.acons (.var 1) (.acons (.var 3) (.acons (.var 5) .anil)))))
        (.seq (.ret (.cst (.bl false)))
        .nil)
        .nil)
      .nil))
    .nil))
  (.seq (.asg (.nm 6) (.tup (.acons (.cst (.str "of")) (.acons (.cst (.str "p")) (.acons (.tup .anil) .anil)))))
  (.seq (.asg (.nm 7) (.tup (.acons (.cst (.str "of")) (.acons (.cst (.str "q")) (.acons (.tup .anil) .anil)))))
  (.seq (.asg (.nm 8) (.tup (.acons (.cst (.str "all")) (.acons (.tup (.acons (.var 6) (.acons (.tup (.acons (.cst (.str "not")) (.acons (.var 6) .anil))) (.acons (.var 7) .anil)))) .anil))))
  (.seq (.ite (.or_ (.not_ (.call 11 (.acons (.call 2 (.acons (.var 8) .anil)) (.acons (.tup (.acons (.var 8) (.acons (.var 6) (.acons (.tup (.acons (.cst (.str "not")) (.acons (.var 6) .anil))) (.acons (.var 6) (.acons (.var 7) .anil)))))) .anil)))) (.or_ (.not_ (.call 11 (.acons (.call 4 (.acons (.var 8) .anil)) (.acons (.tup (.acons (.var 6) (.acons (.tup (.acons (.cst (.str "not")) (.acons (.var 6) .anil))) (.acons (.var 7) (.acons (.var 8) .anil))))) .anil)))) (.or_ (.not_ (.call 11 (.acons (.call 5 (.acons (.var 8) .anil)) (.acons (.cst (.int 5)) .anil)))) (.not_ (.call 11 (.acons (.call 6 (.acons (.var 8) .anil)) (.acons (.cst (.int 3)) .anil)))))))
    (.seq (.ret (.cst (.bl false)))
    .nil)
    .nil)
  (.seq (.ite (.not_ (.call 11 (.acons (.call 8 (.acons (.var 8) (.acons (.var 6) (.acons (.tup (.acons (.cst (.str "not")) (.acons (.var 6) .anil))) .anil)))) (.acons (.tup (.acons (.cst (.str "all")) (.acons (.tup (.acons (.tup (.acons (.cst (.str "not")) (.acons (.var 6) .anil))) (.acons (.tup (.acons (.cst (.str "not")) (.acons (.tup (.acons (.cst (.str "not")) (.acons (.var 6) .anil))) .anil))) (.acons (.var 7) .anil)))) .anil))) .anil))))
    (.seq (.ret (.cst (.bl false)))
    .nil)
    .nil)
  (.seq (.ite (.or_ (.not_ (.call 11 (.acons (.call 8 (.acons (.var 8) (.acons (.tup (.acons (.cst (.str "not")) (.acons (.var 6) .anil))) (.acons (.var 6) .anil)))) (.acons (.tup (.acons (.cst (.str "all")) (.acons (.tup (.acons (.var 6) (.acons (.var 6) (.acons (.var 7) .anil)))) .anil))) .anil)))) (.not_ (.call 11 (.acons (.call 7 (.acons (.var 8) .anil)) (.acons (.tup (.acons (.cst (.str "p")) (.acons (.cst (.str "q")) .anil))) .anil)))))
    (.seq (.ret (.cst (.bl false)))
    .nil)
    .nil)
  (.seq (.asg (.nm 9) (.tup (.acons (.cst (.str "sum")) (.acons (.tup (.acons (.tup (.acons (.cst (.int 2)) (.acons (.tup (.acons (.cst (.str "of")) (.acons (.cst (.str "x")) (.acons (.tup .anil) .anil)))) .anil))) (.acons (.tup (.acons (.prim .neg (.acons (.cst (.int 1)) .anil)) (.acons (.tup (.acons (.cst (.str "of")) (.acons (.cst (.str "f")) (.acons (.tup (.acons (.tup (.acons (.cst (.str "of")) (.acons (.cst (.str "x")) (.acons (.tup .anil) .anil)))) .anil)) .anil)))) .anil))) .anil))) (.acons (.cst (.int 4)) .anil)))))
  (.seq (.ite (.not_ (.call 11 (.acons (.call 8 (.acons (.var 9) (.acons (.tup (.acons (.cst (.str "of")) (.acons (.cst (.str "x")) (.acons (.tup .anil) .anil)))) (.acons (.tup (.acons (.cst (.str "sum")) (.acons (.tup .anil) (.acons (.cst (.int 1)) .anil)))) .anil)))) (.acons (.tup (.acons (.cst (.str "sum")) (.acons (.tup (.acons (.tup (.acons (.cst (.int 2)) (.acons (.tup (.acons (.cst (.str "sum")) (.acons (.tup .anil) (.acons (.cst (.int 1)) .anil)))) .anil))) (.acons (.tup (.acons (.prim .neg (.acons (.cst (.int 1)) .anil)) (.acons (.tup (.acons (.cst (.str "of")) (.acons (.cst (.str "f")) (.acons (.tup (.acons (.tup (.acons (.cst (.str "sum")) (.acons (.tup .anil) (.acons (.cst (.int 1)) .anil)))) .anil)) .anil)))) .anil))) .anil))) (.acons (.cst (.int 4)) .anil)))) .anil))))
    (.seq (.ret (.cst (.bl false)))
    .nil)
    .nil)
  (.seq (.ret (.and_ (.call 11 (.acons (.call 7 (.acons (.var 9) .anil)) (.acons (.tup (.acons (.cst (.str "f")) (.acons (.cst (.str "x")) .anil))) .anil))) (.and_ (.call 11 (.acons (.call 2 (.acons (.tup (.acons (.cst (.str "yes")) .anil)) .anil)) (.acons (.tup (.acons (.tup (.acons (.cst (.str "yes")) .anil)) .anil)) .anil))) (.and_ (.call 11 (.acons (.call 6 (.acons (.tup (.acons (.cst (.str "all")) (.acons (.tup .anil) .anil))) .anil)) (.acons (.cst (.int 1)) .anil))) (.call 11 (.acons (.call 5 (.acons (.var 9) .anil)) (.acons (.cst (.int 4)) .anil)))))))
  .nil)))))))))))))
abbrev d_law : FD := ⟨"law", ["script"], ["script", "draws", "signature", "pool", "sort", "term", "p", "q", "both", "total"], top 27, b_law⟩
def gl : List (Str × D) := []
def F : List FD := [d_terms_in, d_with_terms, d_parts_of, d_key_of, d_unlike_parts, d_size_of, d_depth_of, d_names_in, d_put_for, d__law_draws, d__law_take, d__law_same, d__law_order, d__law_shuffled, d__law_signature, d__law_pick, d__law_inside, d__law_parts, d__law_new, d__law_pool, d__law_fits, d__law_terms, d__law_unlike, d__law_put_in, d__law_is_term_right, d_law]
def Tfn : List Str := "terms_in" :: "with_terms" :: "parts_of" :: "key_of" :: "unlike_parts" :: "size_of" :: "depth_of" :: "names_in" :: "put_for" :: "_law_draws" :: "_law_take" :: "_law_same" :: "_law_order" :: "_law_shuffled" :: "_law_signature" :: "_law_pick" :: "_law_inside" :: "_law_parts" :: "_law_new" :: "_law_pool" :: "_law_fits" :: "_law_terms" :: "_law_unlike" :: "_law_put_in" :: "_law_is_term_right" :: "law" :: []
def T : Tab := ⟨Tfn, gl, ["tuple", "range", "len", "list", "repr", "sorted", "set", "int", "isinstance", "bool", "str", "min", "max", "sum"], [], [], [], []⟩

end K03

namespace K03
open PySem PySem.Spec PyProof.Rows L2 Py
section
variable {d : Nat} {h : Hd} {Q : PD} {ex cx : XD}
theorem parts17 {n : Nat} {t : D} (g : tm n t) (hl : (pts n t).length < 100000) (q : Q (.tl (pts n t)) h) : wpCall gl F (d+2) 17 [t] h Q ex := parts_spec rfl rfl (gd_ok (tm_gd g)) (tm_hsh g) hl q
theorem inside16 {n : Nat} {t : D} (g : tm n t) (q : Q (.tl (insD t)) h) : wpCall gl F (d+1) 16 [t] h Q ex := inside_spec rfl (gd_ok (tm_gd g)) (tm_sub g).1 q
theorem x_revL {a : Nat} {xs : List D} {h : Hd} {Q : PD} (e : h[a]? = some (.lst xs)) : px .rev [.loc a] h Q = Q (.tl xs.reverse) h := by simp only [px_eq, wpP, revW, lstOf, e]
/-- terms of one call -/
structure Tm (n : Nat) (t : D) : Prop where
  tm : tm n t
  n60 : 3 * n + 1 ≤ 60
  many : (pts n t).length < 100000
  long : tlen t ≤ 16000000
theorem Tm.part {n : Nat} {t p : D} (g : Tm n t) (hp : p ∈ pts n t) : Py.tm n p ∧ tlen p ≤ 16000000 := by
  refine ⟨tm_pts g.tm p hp, ?_⟩
  have hh := tm_hsh g.tm
  rw [(hsh_sub hh).2.2] at hp
  rcases List.mem_cons.mp hp with rfl | hp
  · exact g.long
  · obtain ⟨l, hl, hp⟩ := List.mem_flatten.mp hp
    obtain ⟨u, hu, rfl⟩ := List.mem_map.mp hl
    have := pts_short hh u hu p hp
    have := g.long
    omega
theorem reprT {n : Nat} {t : D} {h : Hd} {Q : PD} (g : tm n t) (hn : 3 * n + 1 ≤ 60) (hl : tlen t ≤ 16000000) (q : Q (.str t.pd.shown) h) : px .repr [t] h Q := by
  obtain ⟨xs, rfl⟩ := tm_tup g
  exact fine_repr (gd_fine (tm_gd g)) hn hl q
theorem fits_spec {n : Nat} {t : D} (g : Tm n t) (q : ∀ b : Bool, Q (.bl b) h) : wpCall gl F (d+3) 20 [t] h Q ex := by
  have hz : sizeLine > 16000000 := by decide
  have hp0 : t ∈ pts n t := by rw [(hsh_sub (tm_hsh g.tm)).2.2]; exact List.mem_cons_self
  refine call_of (c := d__law_fits) rfl rfl ?_
  simp [startD, b__law_fits]
  rw [m_gd (tm_gd g.tm)]
  refine parts17 g.tm g.many ?_
  simp
  refine nxt_of ?_
  simp
  refine nxt_of ?_
  simp
  rw [x_revL (xs := pts n t) (by simp)]
  simp
  refine for_inv (fun i τ h' => ∃ (ks vs : List D) (t3 : Option D), h' = h ++ [.lst (pts n t), .dct false ks vs] ∧ τ = [some t, some (.loc h.length), some (.loc (h.length + 1)), t3, none] ∧ Tells ks vs ((pts n t).reverse.take i) (fun p w => w = .int (dpn n p)) ∧ ks.length ≤ i)
    ⟨[], [], _, rfl, rfl, ⟨rfl, fun p hp => by simp at hp⟩, Nat.le_refl _⟩ ?_ ?_
  · rintro i x τ h' k' hx ⟨ks, vs, t3, rfl, rfl, hT, hk⟩ hk'
    have hxm : x ∈ pts n t := List.mem_reverse.mp (List.mem_of_getElem? hx)
    have hi := (List.getElem?_eq_some_iff.mp hx).1
    rw [List.length_reverse] at hi
    have hm := g.many
    obtain ⟨gx, lx⟩ := g.part hxm
    have kids := ka_rev (ka_pts (tm_hsh g.tm)) hx
    refine ⟨trivial, ?_⟩
    simp
    rw [m_gd (tm_gd gx)]
    refine ⟨by omega, inside16 gx ?_⟩
    simp
    have hLg : ∀ p ∈ (pts n t).reverse.take i, gd (3 * n + 1) p := fun p hp => tm_gd (g.part (List.mem_reverse.mp (List.mem_of_mem_take hp))).1
    have li := gd_ins (tm_sub gx).1 (tm_gd gx)
    rw [show insD x = (insD x).map id by simp]
    refine comp_on id (fun u => D.int (dpn n u)) (by omega) trivial (fun u hu k st => ?_) ?_
    · obtain ⟨w, e1, e2⟩ := hT.get u (kids u hu)
      obtain ⟨gu, lu⟩ := g.part (List.mem_reverse.mp (List.mem_of_mem_take (kids u hu)))
      simp
      refine reprT gu g.n60 lu ?_
      simp
      rw [e1, e2]
      simp
      rw [e2] at *
      exact st
    · have eL : D.int 0 :: (insD x).map (fun u => D.int (dpn n u)) = ((0 : Int) :: (insD x).map (dpn n)).map D.int := by simp
      refine ⟨by simp; omega, ?_⟩
      rw [eL, x_maxL (ns := (0 : Int) :: (insD x).map (dpn n)) rfl (List.max?_cons' ..)]
      simp
      rw [← dpn_sub (tm_hsh gx)]
      refine reprT gx g.n60 lx ?_
      simp
      refine ⟨by omega, hk' _ _ ⟨_, _, _, rfl, rfl, ?_, ?_⟩⟩
      · rw [List.take_succ, hx]
        exact hT.put hLg (tm_gd gx) rfl
      · have := (dput_len (k := .inr x.pd.shown) (w := .int (dpn n x)) hT.len).2
        omega
  · rintro τ h' ⟨ks, vs, t3, rfl, rfl, hT, hk⟩
    rw [List.take_of_length_le (Nat.le_refl _)] at hT
    obtain ⟨w, e1, e2⟩ := hT.get t (List.mem_reverse.mpr hp0)
    refine ⟨trivial, nxt_of ?_⟩
    have hm := g.many
    simp
    split
    · refine reprT g.tm g.n60 g.long ?_
      simp
      rw [e1, e2]
      simp
      exact gc_app trivial (q _)
    · exact gc_app trivial (q _)
theorem put_in_spec {n k m : Nat} {t one other : D} (g : Tm n t) (go : tm k other) (g1 : tm m one) (hk : 3 * (n + k) + 1 ≤ 60) (hm : 3 * m + 1 ≤ 60) (q : Q (putD one other n t) h) : wpCall gl F (d+3) 23 [t, one, other] h Q ex := by
  have hz : sizeLine > 16000000 := by decide
  have hp0 : t ∈ pts n t := by rw [(hsh_sub (tm_hsh g.tm)).2.2]; exact List.mem_cons_self
  have g1' := tm_gd g1
  have go' := tm_gd go
  refine call_of (c := d__law_put_in) rfl rfl ?_
  simp [startD, b__law_put_in]
  refine nxt_of ?_
  simp
  rw [m_gd (tm_gd g.tm)]
  refine parts17 g.tm g.many ?_
  simp
  refine for_inv (fun i τ h' => ∃ (ks vs : List D) (e : Hd) (t4 t5 : Option D), h' = h ++ .dct false ks vs :: e ∧ τ = [some t, some one, some other, some (.loc h.length), t4, t5, none, none] ∧ Tells ks vs ((pts n t).reverse.take i) (fun p w => w = putD one other n p) ∧ ks.length ≤ i)
    ⟨[], [], [], _, _, rfl, rfl, ⟨rfl, fun p hp => by simp at hp⟩, Nat.le_refl _⟩ ?_ ?_
  · rintro i x τ h' k' hx ⟨ks, vs, e, t4, t5, rfl, rfl, hT, hkl⟩ hk'
    have hxm : x ∈ pts n t := List.mem_reverse.mp (List.mem_of_getElem? hx)
    have hi := (List.getElem?_eq_some_iff.mp hx).1
    rw [List.length_reverse] at hi
    have hmn := g.many
    obtain ⟨gx, lx⟩ := g.part hxm
    have kids := ka_rev (ka_pts (tm_hsh g.tm)) hx
    have hLg : ∀ p ∈ (pts n t).reverse.take i, gd (3 * n + 1) p := fun p hp => tm_gd (g.part (List.mem_reverse.mp (List.mem_of_mem_take hp))).1
    have li := gd_ins (tm_sub gx).1 (tm_gd gx)
    have gr : tm (n + k) (putD one other n x) := put_tm go gx
    have es := put_sub (one := one) (other := other) (tm_hsh gx)
    have fin : ∀ (w : D) (e' : Hd) (t5 : Option D), putD one other n x = w → k' [some t, some one, some other, some (.loc h.length), some x, t5, none, none] (h ++ .dct false (dPut ks vs (.inr x.pd.shown) w).1 (dPut ks vs (.inr x.pd.shown) w).2 :: e') := fun w e' t5 ew => by
      subst ew
      refine hk' _ _ ⟨_, _, e', _, _, rfl, rfl, ?_, ?_⟩
      · rw [List.take_succ, hx]
        exact hT.put hLg (tm_gd gx) rfl
      · have := (dput_len (k := .inr x.pd.shown) (w := putD one other n x) hT.len).2
        omega
    refine ⟨trivial, ?_⟩
    simp
    rw [m_gd (tm_gd gx)]
    refine inside16 gx ?_
    simp
    rw [show insD x = (insD x).map id by simp]
    refine comp_on id (putD one other n) (by omega) trivial (fun u hu k st => ?_) ?_
    · obtain ⟨w, e1, e2⟩ := hT.get u (kids u hu)
      obtain ⟨gu, lu⟩ := g.part (List.mem_reverse.mp (List.mem_of_mem_take (kids u hu)))
      simp
      refine reprT gu g.n60 lu ?_
      simp
      rw [e1]
      simp
      rw [e2, m_gd (tm_gd (put_tm go gu))]
      exact st
    · simp
      refine nxt_of ?_
      simp
      rw [x_eqG (tm_gd gx) g1' g.n60 hm (tm_tup gx) (tm_tup g1)]
      simp
      by_cases c : x = one
      · rw [if_pos c]
        rw [if_pos c] at es
        refine nxt_of ?_
        simp
        rw [m_gd go']
        refine reprT gx g.n60 lx ?_
        simp
        refine ⟨by omega, ?_⟩
        exact fin _ _ _ es
      · rw [if_neg c]
        rw [if_neg c] at es
        refine nxt_of ?_
        simp
        have hh := fun (H : Hd) (K : PD) => x_head (h := H) (Q := K) (tm_sub gx).1
        have gtx := tm_gd gx
        have rp := fun (H : Hd) (K : PD) => reprT (h := H) (Q := K) gx g.n60 lx
        rw [hh]
        simp
        rcases shp_cases (tm_sub gx).1 with ⟨b, as, rfl, e0⟩ | ⟨its, b, rfl, e0, hi'⟩ | ⟨kd, as, hkd, rfl, e0⟩ | ⟨kd, as, h1, h2, h3, rfl, e0⟩
        · rw [show headS (.tup [.str "of", b, .tup as]) = ("of" : Str) from rfl, if_pos rfl]
          rw [e0, with_of] at es
          refine nxt_of ?_
          simp
          have gb : gd (3 * n + 1) b := by
            cases n with
            | zero => exact gx.elim
            | succ n => exact gd_le (gtx.2 b (by simp)) (by omega)
          rw [m_gd gb]
          simp
          refine ⟨by omega, rp _ _ ?_⟩
          simp
          refine ⟨by omega, ?_⟩
          rw [e0]
          exact fin _ _ _ es
        · rw [show headS (.tup [.str "sum", .tup its, b]) = ("sum" : Str) from rfl, if_neg (by decide)]
          rw [e0, with_sum] at es
          have gi : gd (3 * n) (.tup its) := by
            cases n with
            | zero => exact gx.elim
            | succ n => exact gtx.2 _ (by simp)
          have gb : gd (3 * n) b := by
            cases n with
            | zero => exact gx.elim
            | succ n => exact gtx.2 _ (by simp)
          rw [e0] at li ⊢
          have gL : ∀ u ∈ (its.map part2).map (putD one other n), tm (n + k) u := fun u hu => by
            obtain ⟨v, hv, rfl⟩ := List.mem_map.mp hu
            exact put_tm go ((tm_sub gx).2.2 v (by rw [e0]; exact hv))
          generalize hL : (its.map part2).map (putD one other n) = L at es gL ⊢
          have hl : L.length = its.length := by rw [← hL]; simp
          have hl2 : its.length ≤ 1000 := by have := li.1; rw [List.length_map] at this; exact this
          refine nxt_of ?_
          simp
          refine nxt_of ?_
          simp
          refine ⟨by omega, ?_⟩
          rw [rangeD_map]
          have zl : (List.zipWith itW its L).length = L.length := by rw [List.length_zipWith]; omega
          refine comp_on (fun j : Nat => D.int (0 + (j : Int))) (fun j : Nat => (List.zipWith itW its L).getD j .non) (by simp; omega) trivial (fun j hj k st => ?_) ?_
          · rw [List.mem_range] at hj
            have hj2 : j < its.length := by omega
            obtain ⟨f, u, e⟩ := hi' its[j] (List.getElem_mem _)
            have ez : (List.zipWith itW its L).getD j .non = .tup [f, L[j]] := by
              rw [List.getD, List.getElem?_eq_getElem (by rw [zl]; exact hj)]
              simp only [Option.getD_some, List.getElem_zipWith, e, itW]
            rw [ez] at st
            have a1 : atI its (j : Int) = some (.tup [f, u]) := by
              unfold atI
              rw [ixN_nat hj2, ← e]
              exact List.getElem?_eq_getElem hj2
            have a2 : atI L (j : Int) = some L[j] := by
              unfold atI
              rw [ixN_nat hj]
              exact List.getElem?_eq_getElem hj
            have gj := tm_gd (gL _ (List.getElem_mem hj))
            have gf : gd (3 * n + 1) f := by
              cases hn3 : 3 * n with
              | zero => rw [hn3] at gi; exact gi.elim
              | succ q =>
                rw [hn3] at gi
                have gu := gi.2 _ (List.getElem_mem hj2)
                rw [e] at gu
                cases q with
                | zero => exact gu.elim
                | succ q => exact gd_le (gu.2 f (by simp)) (by omega)
            simp [a1]
            rw [m_gd gf]
            simp [a2]
            rw [m_gd gj]
            exact ⟨by omega, st⟩
          · have er : (List.range L.length).map (fun j : Nat => (List.zipWith itW its L).getD j .non) = List.zipWith itW its L := by
              apply List.ext_getElem
              · simp [zl]
              · intro j h1 h2
                rw [List.getElem_map, List.getElem_range, List.getD, List.getElem?_eq_getElem h2]
                rfl
            rw [er]
            rw [m_gd gb]
            refine ⟨by omega, rp _ _ ?_⟩
            simp
            refine ⟨by omega, ?_⟩
            exact fin _ _ _ es
        · have hk1 : kd ≠ "of" := by rcases hkd with rfl | rfl <;> decide
          have hk2 : kd ≠ "sum" := by rcases hkd with rfl | rfl <;> decide
          rw [show headS (.tup [.str kd, .tup as]) = kd from rfl, if_neg hk1]
          rw [e0, with_row hkd] at es
          refine nxt_of ?_
          simp
          rw [if_neg hk2]
          refine nxt_of ?_
          simp
          refine ⟨by omega, ?_⟩
          rw [x_inS (ns := ["all", "some"]) rfl]
          simp
          rw [if_pos hkd]
          refine nxt_of ?_
          simp
          refine ⟨by omega, rp _ _ ?_⟩
          simp
          refine ⟨by omega, ?_⟩
          rw [e0]
          exact fin _ _ _ es
        · rw [show headS (.tup (.str kd :: as)) = kd from rfl, if_neg h1]
          rw [e0, with_flat h1 h2 h3] at es
          refine nxt_of ?_
          simp
          rw [if_neg h2]
          refine nxt_of ?_
          simp
          refine ⟨by omega, ?_⟩
          rw [x_inS (ns := ["all", "some"]) rfl]
          simp
          rw [if_neg h3]
          refine nxt_of ?_
          simp
          have la := li.1
          rw [e0] at la
          refine ⟨by omega, by rw [e0]; omega, rp _ _ ?_⟩
          simp
          refine ⟨by omega, ?_⟩
          rw [e0]
          exact fin _ _ _ es
  · rintro τ h' ⟨ks, vs, e, t4, t5, rfl, rfl, hT, hkl⟩
    rw [List.take_of_length_le (Nat.le_refl _)] at hT
    obtain ⟨w, e1, e2⟩ := hT.get t (List.mem_reverse.mpr hp0)
    refine ⟨trivial, nxt_of ?_⟩
    simp
    refine reprT g.tm g.n60 g.long ?_
    simp
    rw [e1, e2]
    simp
    exact gc_app (data_clean _ _ (okT_data (gd_ok (tm_gd (put_tm (one := one) go g.tm))))) q
end
end K03

namespace K03
open PySem PySem.Spec PyProof.Rows L2 Py
section
variable {d : Nat} {h : Hd} {Q : PD} {ex cx : XD}
theorem pures_gd {n : Nat} : ∀ {ys : List D}, (∀ y ∈ ys, gd n y) → D.pures ys = true
  | [], _ => rfl
  | y :: ys, g => by
    simp only [D.pures, Bool.and_eq_true]
    exact ⟨data_pure n y (okT_data (gd_ok (g y List.mem_cons_self))), pures_gd fun z hz => g z (List.mem_cons_of_mem _ hz)⟩
theorem gd_shaped {n : Nat} {x : D} (g : gd n x) (hn : n ≤ 60) : SeqAt.shaped x.pd = true := by
  unfold SeqAt.shaped
  rw [(gd_fine g).2.2]
  have := data_depth n x (okT_data (gd_ok g))
  simp
  omega
theorem pds_mem : ∀ {ys : List D} {z : PyData}, z ∈ D.pds ys → ∃ y ∈ ys, z = y.pd
  | [], z, h => by cases h
  | y :: ys, z, h => by
    simp only [D.pds, List.mem_cons] at h
    rcases h with rfl | h
    · exact ⟨y, List.mem_cons_self, rfl⟩
    · obtain ⟨w, hw, e⟩ := pds_mem h
      exact ⟨w, List.mem_cons_of_mem _ hw, e⟩
theorem any_gd {n m : Nat} {x : D} (gx : gd m x) : ∀ {ys : List D}, (∀ y ∈ ys, gd n y) → ((D.pds ys).any fun z => PyData.eqv z x.pd) = decide (x ∈ ys)
  | [], _ => by simp [D.pds]
  | y :: ys, g => by
    simp only [D.pds, List.any_cons, any_gd gx fun z hz => g z (List.mem_cons_of_mem _ hz), eqv_dec (g y List.mem_cons_self) gx]
    by_cases c : y = x
    · subst c
      simp
    · have c2 : ¬ x = y := fun e => c e.symm
      simp [c, c2]
theorem x_notinG {n m a : Nat} {x : D} {ys : List D} {h : Hd} {Q : PD} (gx : gd m x) (gy : ∀ y ∈ ys, gd n y) (hm : m ≤ 60) (hn : n ≤ 60) (ha : h[a]? = some (.lst ys)) : px .notinD [x, .loc a] h Q = Q (.bl (!decide (x ∈ ys))) h := by
  simp only [px_eq, wpP, inDW, seqOf, lstOf, ha]
  rw [any_gd gx gy]
  have c : (x.pure = true ∧ D.pures ys = true) ∧ SeqAt.shaped x.pd = true ∧ x.pd.depth ≤ 60 ∧ ∀ y ∈ D.pds ys, SeqAt.shaped y = true :=
    ⟨⟨data_pure m x (okT_data (gd_ok gx)), pures_gd gy⟩, gd_shaped gx hm, by have := data_depth m x (okT_data (gd_ok gx)); omega, fun z hz => by
      obtain ⟨y, hy, rfl⟩ := pds_mem hz
      exact gd_shaped (gy y hy) hn⟩
  exact propext ⟨fun z => z.2, fun z => ⟨c, z⟩⟩
theorem tells_imp {ks vs L : List D} {g g' : D → D → Prop} (h : Tells ks vs L g) (i : ∀ p w, g p w → g' p w) : Tells ks vs L g' := ⟨h.len, fun p hp => let ⟨w, a, b⟩ := h.get p hp; ⟨w, a, i p w b⟩⟩
theorem law_unlike_spec {n : Nat} {t : D} (g : Tm n t) (q : Q (.tup (uq n t)) h) : wpCall gl F (d+3) 22 [t] h Q ex := by
  have hz : sizeLine > 16000000 := by decide
  have hh := tm_hsh g.tm
  have hp0 : t ∈ pts n t := by rw [(hsh_sub hh).2.2]; exact List.mem_cons_self
  have hmn := g.many
  refine call_of (c := d__law_unlike) rfl rfl ?_
  simp [startD, b__law_unlike]
  refine nxt_of ?_
  simp
  rw [m_gd (tm_gd g.tm)]
  refine parts17 g.tm g.many ?_
  simp
  refine for_inv (fun i τ h' => ∃ (ks vs : List D) (e : Hd) (t2 t3 t4 : Option D), h' = h ++ .dct false ks vs :: e ∧ τ = [some t, some (.loc h.length), t2, t3, t4, none] ∧ Tells ks vs ((pts n t).reverse.take i) (fun p w => ∃ j, w = .loc (h.length + (j + 1)) ∧ e[j]? = some (.lst (uq n p))) ∧ ks.length ≤ i)
    ⟨[], [], [], _, _, _, rfl, rfl, ⟨rfl, fun p hp => by simp at hp⟩, Nat.le_refl _⟩ ?_ ?_
  · rintro i x τ h' k' hx ⟨ks, vs, e, t2, t3, t4, rfl, rfl, hT, hkl⟩ hk'
    have hxm : x ∈ pts n t := List.mem_reverse.mp (List.mem_of_getElem? hx)
    have hi := (List.getElem?_eq_some_iff.mp hx).1
    rw [List.length_reverse] at hi
    obtain ⟨gx, lx⟩ := g.part hxm
    have hhx := tm_hsh gx
    have kids := ka_rev (ka_pts hh) hx
    have hLg : ∀ p ∈ (pts n t).reverse.take i, gd (3 * n + 1) p := fun p hp => tm_gd (g.part (List.mem_reverse.mp (List.mem_of_mem_take hp))).1
    have li := gd_ins (tm_sub gx).1 (tm_gd gx)
    have rowp : ∀ j y, y ∈ ((insD x).take j).foldl (rowS (uq n)) [] → y ∈ pts n t := fun j y hy => by
      rcases row_mem.mp hy with z | ⟨u, hu, z⟩
      · cases z
      · have hu' := (hsh_sub hhx).2.1 u (List.mem_of_mem_take hu)
        refine pts_trans hh (Nat.le_refl _) x hxm y ?_
        rw [(hsh_sub hhx).2.2]
        exact List.mem_cons_of_mem _ (List.mem_flatten.mpr ⟨_, List.mem_map_of_mem (List.mem_of_mem_take hu), (uq_mem hu' y).mp z⟩)
    have rown : ∀ j, (((insD x).take j).foldl (rowS (uq n)) []).Nodup := fun j => row_nodup List.nodup_nil fun u hu => uq_nodup ((hsh_sub hhx).2.1 u (List.mem_of_mem_take hu))
    have rowl : ∀ j, (((insD x).take j).foldl (rowS (uq n)) []).length ≤ (pts n t).length := fun j => len_sub _ _ (rown j) (rowp j)
    have rowg : ∀ j, ∀ y ∈ ((insD x).take j).foldl (rowS (uq n)) [], gd (3 * n + 1) y := fun j y hy => tm_gd (g.part (rowp j y hy)).1
    refine ⟨trivial, ?_⟩
    simp
    refine nxt_of ?_
    simp
    rw [m_gd (tm_gd gx)]
    refine inside16 gx ?_
    simp
    refine for_inv (fun j τ h' => ∃ (e2 : Hd) (b : Nat) (t4 : Option D), h' = h ++ .dct false ks vs :: (e ++ e2) ∧ τ = [some t, some (.loc h.length), some x, some (.loc (h.length + (b + 1))), t4, none] ∧ (e ++ e2)[b]? = some (.lst (((insD x).take j).foldl (rowS (uq n)) [])))
      ⟨[.lst []], e.length, _, rfl, rfl, by simp⟩ ?_ ?_
    · rintro j u τ h' k hu ⟨e2, b, t4, rfl, rfl, hb⟩ hk
      have hum := List.mem_of_getElem? hu
      obtain ⟨w, e1, a, ew, ea⟩ := hT.get u (kids u hum)
      obtain ⟨gu, lu⟩ := g.part (List.mem_reverse.mp (List.mem_of_mem_take (kids u hum)))
      have ha : a < e.length := (List.getElem?_eq_some_iff.mp ea).1
      have hal : (e ++ e2)[a]? = some (.lst (uq n u)) := by rw [List.getElem?_append_left ha]; exact ea
      have ul : (uq n u).length ≤ (pts n t).length := len_sub _ _ (uq_nodup (tm_hsh gu)) fun y hy => pts_trans hh (Nat.le_refl _) u (List.mem_reverse.mp (List.mem_of_mem_take (kids u hum))) y ((uq_mem (tm_hsh gu) y).mp hy)
      refine ⟨trivial, ?_⟩
      simp
      refine reprT gu g.n60 lu ?_
      simp
      rw [e1, ew]
      simp
      rw [hal]
      have hbl : (h ++ .dct false ks vs :: (e ++ e2))[h.length + (b + 1)]? = some (.lst (((insD x).take j).foldl (rowS (uq n)) [])) := by
        rw [look_past3]
        exact hb
      have hal2 : (h ++ .dct false ks vs :: (e ++ e2))[h.length + (a + 1)]? = some (.lst (uq n u)) := by
        rw [look_past3]
        exact hal
      show compW _ _ _ _ _ _ (uq n u) [] _
      rw [show uq n u = (uq n u).map id by simp]
      refine comp_onf id id (fun o => decide (o ∉ ((insD x).take j).foldl (rowS (uq n)) [])) (by omega) (by simpa using hal2) (fun y hy k2 s st => ?_) ?_
      · have gy := tm_gd (g.part (pts_trans hh (Nat.le_refl _) u (List.mem_reverse.mp (List.mem_of_mem_take (kids u hum))) y ((uq_mem (tm_hsh gu) y).mp hy))).1
        have hn60 := g.n60
        simp
        rw [x_notinG gy (rowg j) hn60 hn60 hbl]
        simp
        by_cases c : y ∈ ((insD x).take j).foldl (rowS (uq n)) []
        · rw [if_neg (by simpa using c)] at st
          simp [c]
          exact st
        · rw [if_pos (by simpa using c)] at st
          simp [c]
          rw [m_gd gy]
          exact st
      · rw [x_addL (a := ((insD x).take j).foldl (rowS (uq n)) []) (b := ((uq n u).filter fun o => decide (o ∉ ((insD x).take j).foldl (rowS (uq n)) [])).map id) (mu_loc hbl) rfl]
        have e3 : ((insD x).take j).foldl (rowS (uq n)) [] ++ ((uq n u).filter fun o => decide (o ∉ ((insD x).take j).foldl (rowS (uq n)) [])).map id = ((insD x).take (j + 1)).foldl (rowS (uq n)) [] := by
          rw [List.take_succ, hu, List.foldl_append]
          simp [rowS]
        refine ⟨?_, ?_⟩
        · rw [← List.length_append, e3]
          have := rowl (j + 1)
          omega
        · rw [e3]
          simp
          refine hk _ _ ⟨e2 ++ [.lst (((insD x).take (j + 1)).foldl (rowS (uq n)) [])], e.length + e2.length, _, by simp, rfl, by simp⟩
    · rintro τ h' ⟨e2, b, t4, rfl, rfl, hb⟩
      rw [List.take_of_length_le (Nat.le_refl _)] at hb
      have hbl : (h ++ .dct false ks vs :: (e ++ e2))[h.length + (b + 1)]? = some (.lst ((insD x).foldl (rowS (uq n)) [])) := by
        rw [look_past3]
        exact hb
      have rl := rowl (insD x).length
      rw [List.take_of_length_le (Nat.le_refl _)] at rl
      refine ⟨trivial, nxt_of ?_⟩
      simp
      rw [m_gd (tm_gd gx)]
      refine ⟨by omega, ?_⟩
      rw [x_addL (a := (insD x).foldl (rowS (uq n)) []) (b := [x]) (mu_loc hbl) rfl, ← uq_sub hhx]
      refine ⟨by simp; omega, ?_⟩
      simp
      refine reprT gx g.n60 lx ?_
      simp
      refine ⟨by omega, hk' _ _ ⟨_, _, e ++ (e2 ++ [.lst (uq n x)]), _, _, _, rfl, rfl, ?_, ?_⟩⟩
      · rw [List.take_succ, hx]
        refine Tells.put (tells_imp hT fun p w ⟨j, a, b⟩ => ⟨j, a, by rw [List.getElem?_append_left (List.getElem?_eq_some_iff.mp b).1]; exact b⟩) hLg (tm_gd gx) ⟨e.length + e2.length, ?_, ?_⟩
        · simp
        · rw [← List.append_assoc, List.getElem?_append_right (by simp)]
          simp
      · have := (dput_len (k := .inr x.pd.shown) (w := D.loc (h.length + (e.length + e2.length + 1))) hT.len).2
        simp at this ⊢
        omega
  · rintro τ h' ⟨ks, vs, e, t2, t3, t4, rfl, rfl, hT, hkl⟩
    rw [List.take_of_length_le (Nat.le_refl _)] at hT
    obtain ⟨w, e1, j, ew, ej⟩ := hT.get t (List.mem_reverse.mpr hp0)
    refine ⟨trivial, nxt_of ?_⟩
    simp
    refine reprT g.tm g.n60 g.long ?_
    simp
    rw [e1, ew]
    simp
    rw [ej]
    simp
    refine gc_app ?_ q
    simp only [D.clean]
    exact cl_okT _ fun u hu => gd_ok (tm_gd (tm_pts g.tm u ((uq_mem hh u).mp hu)))
end
end K03

namespace K03
open PySem PySem.Spec PyProof.Rows L2 Py
/-- terms of the pool -/
structure PT (t : D) : Prop where
  tm : tm 5 t
  many : (pts 5 t).length ≤ 40
  long : tlen t ≤ 12000
  nm : named 5 t
  zf : zfn 5 t
theorem PT.T {t : D} (g : PT t) : Tm 5 t := ⟨g.tm, by omega, by have := g.many; omega, by have := g.long; omega⟩
theorem PT.in_ {t : D} (g : PT t) : t ∈ pts 5 t := by rw [(hsh_sub (tm_hsh g.tm)).2.2]; exact List.mem_cons_self
theorem tup_okT {n : Nat} {xs : List D} (hl : xs.length ≤ 1000) (h : ∀ x ∈ xs, okT n x) : okT (n + 1) (.tup xs) := ⟨hl, h⟩
theorem PT.row {t : D} (g : PT t) : okT 17 (.tup (pts 5 t)) := tup_okT (by have := g.many; omega) fun x hx => gd_ok (tm_gd (tm_pts g.tm x hx))
theorem PT.uqs {t : D} (g : PT t) : (uq 5 t).length ≤ 40 := by
  have := len_sub _ _ (uq_nodup (tm_hsh g.tm)) fun y hy => (uq_mem (tm_hsh g.tm) y).mp hy
  have := g.many
  omega
theorem PT.urow {t : D} (g : PT t) : okT 17 (.tup (uq 5 t)) := tup_okT (by have := g.uqs; omega) fun x hx => gd_ok (tm_gd (tm_pts g.tm x ((uq_mem (tm_hsh g.tm) x).mp hx)))
theorem okT_strs {us : List Str} (hl : us.length ≤ 1000) (h : ∀ u ∈ us, u.length ≤ 1000) : okT 2 (.tup (us.map D.str)) := tup_okT (by simpa using hl) fun x hx => by
  obtain ⟨u, hu, rfl⟩ := List.mem_map.mp hx
  exact h u hu
section
variable {d : Nat} {h : Hd} {Q : PD} {ex cx : XD}
theorem same_T {n : Nat} {a : D} (o : okT n a) (q : Q (.bl true) h) : wpCall gl F (d+n) 11 [a, a] h Q ex := same_refl rfl rfl rfl n a (okT_data o) q
theorem partA {xs : List D} {r H : Hd} {t : D} {t0 t1 : Option D} (g : PT t)
    (q : ∀ (ks vs : List D) (t5 : Option D), Tells ks vs (pts 5 t) (fun p w => w = .int (dpn 5 p)) → nxt ⟨wpCall gl F 98, cx⟩ gl (nthS 3 b__law_is_term_right) (endZ H Q) [t0, t1, some t, some (.loc (r.length+1)), some (.loc (r.length+2)), t5, none, none, none] (.lst xs :: (r ++ [.lst (pts 5 t), .dct false ks vs]))) :
    nxt ⟨wpCall gl F 98, cx⟩ gl b__law_is_term_right (endZ H Q) [t0, t1, some t, none, none, none, none, none, none] (.lst xs :: r) := by
  have hz : sizeLine > 16000000 := by decide
  have hm := g.many
  refine nxt_of ?_
  rw [show b__law_is_term_right = .seq (hdS (nthS 0 b__law_is_term_right)) (.seq (hdS (nthS 1 b__law_is_term_right)) (.seq (hdS (nthS 2 b__law_is_term_right)) (nthS 3 b__law_is_term_right))) from rfl]
  generalize nthS 3 b__law_is_term_right = rest at q ⊢
  simp only [hdS, nthS, tlS, b__law_is_term_right]
  simp
  rw [m_gd (tm_gd g.tm)]
  refine parts17 g.tm (by omega) ?_
  simp
  refine nxt_of ?_
  simp
  refine nxt_of ?_
  simp
  rw [x_revL (xs := pts 5 t) (by simp)]
  simp
  refine for_inv (fun i τ h' => ∃ (ks vs : List D) (t5 : Option D), h' = .lst xs :: (r ++ [.lst (pts 5 t), .dct false ks vs]) ∧ τ = [t0, t1, some t, some (.loc (r.length+1)), some (.loc (r.length+2)), t5, none, none, none] ∧ Tells ks vs ((pts 5 t).reverse.take i) (fun p w => w = .int (dpn 5 p)) ∧ ks.length ≤ i)
    ⟨[], [], _, rfl, rfl, ⟨rfl, fun p hp => by simp at hp⟩, Nat.le_refl _⟩ ?_ ?_
  · rintro i x τ h' k' hx ⟨ks, vs, t5, rfl, rfl, hT, hk⟩ hk'
    have hxm : x ∈ pts 5 t := List.mem_reverse.mp (List.mem_of_getElem? hx)
    have hi := (List.getElem?_eq_some_iff.mp hx).1
    rw [List.length_reverse] at hi
    obtain ⟨gx, lx⟩ := g.T.part hxm
    have kids := ka_rev (ka_pts (tm_hsh g.tm)) hx
    refine ⟨trivial, ?_⟩
    simp
    rw [m_gd (tm_gd gx)]
    refine ⟨by omega, inside16 gx ?_⟩
    simp
    have hLg : ∀ p ∈ (pts 5 t).reverse.take i, gd 16 p := fun p hp => tm_gd (g.T.part (List.mem_reverse.mp (List.mem_of_mem_take hp))).1
    have li := gd_ins (tm_sub gx).1 (tm_gd gx)
    rw [show insD x = (insD x).map id by simp]
    refine comp_on id (fun u => D.int (dpn 5 u)) (by omega) trivial (fun u hu k st => ?_) ?_
    · obtain ⟨w, e1, e2⟩ := hT.get u (kids u hu)
      obtain ⟨gu, lu⟩ := g.T.part (List.mem_reverse.mp (List.mem_of_mem_take (kids u hu)))
      simp
      refine reprT gu (by omega) lu ?_
      simp
      rw [e1, e2]
      simp
      rw [e2] at *
      exact st
    · have eL : D.int 0 :: (insD x).map (fun u => D.int (dpn 5 u)) = ((0 : Int) :: (insD x).map (dpn 5)).map D.int := by simp
      refine ⟨by simp; omega, ?_⟩
      rw [eL, x_maxL (ns := (0 : Int) :: (insD x).map (dpn 5)) rfl (List.max?_cons' ..)]
      simp
      rw [← dpn_sub (tm_hsh gx)]
      refine reprT gx (by omega) lx ?_
      simp
      refine ⟨by omega, hk' _ _ ⟨_, _, _, rfl, rfl, ?_, ?_⟩⟩
      · rw [List.take_succ, hx]
        exact hT.put hLg (tm_gd gx) rfl
      · have := (dput_len (k := .inr x.pd.shown) (w := .int (dpn 5 x)) hT.len).2
        omega
  · rintro τ h' ⟨ks, vs, t5, rfl, rfl, hT, hk⟩
    rw [List.take_of_length_le (Nat.le_refl _)] at hT
    exact ⟨trivial, q _ _ _ ⟨hT.len, fun p hp => hT.get p (List.mem_reverse.mpr hp)⟩⟩
theorem partB {xs : List D} {r H : Hd} {t : D} {t0 t1 t5 : Option D} {ks vs : List D} (g : PT t) (hT : Tells ks vs (pts 5 t) (fun p w => w = .int (dpn 5 p)))
    (q : nxt ⟨wpCall gl F 98, cx⟩ gl (nthS 4 b__law_is_term_right) (endZ H Q) [t0, t1, some t, some (.loc (r.length+1)), some (.loc (r.length+2)), t5, none, none, none] (.lst xs :: (r ++ [.lst (pts 5 t), .dct false ks vs]))) :
    nxt ⟨wpCall gl F 98, cx⟩ gl (nthS 3 b__law_is_term_right) (endZ H Q) [t0, t1, some t, some (.loc (r.length+1)), some (.loc (r.length+2)), t5, none, none, none] (.lst xs :: (r ++ [.lst (pts 5 t), .dct false ks vs])) := by
  have hz : sizeLine > 16000000 := by decide
  have hm := g.many
  obtain ⟨w, e1, e2⟩ := hT.get t g.in_
  refine nxt_of ?_
  rw [show nthS 3 b__law_is_term_right = .seq (hdS (nthS 3 b__law_is_term_right)) (nthS 4 b__law_is_term_right) from rfl]
  generalize nthS 4 b__law_is_term_right = rest at q ⊢
  simp only [hdS, nthS, tlS, b__law_is_term_right]
  simp
  rw [m_gd (tm_gd g.tm)]
  refine parts_of_spec (f := 2) (ft := 0) rfl rfl (gd_ok (tm_gd g.tm)) (tm_hsh g.tm) (by omega) ?_
  simp
  refine same_T (d := 81) g.row ?_
  simp
  rw [m_gd (tm_gd g.tm)]
  refine size_spec (f := 5) (fp := 2) (ft := 0) rfl rfl rfl (gd_ok (tm_gd g.tm)) (tm_hsh g.tm) (by omega) ?_
  simp
  refine same_int rfl rfl rfl ?_
  simp
  rw [m_gd (tm_gd g.tm)]
  refine depth_spec (f := 6) (ft := 0) rfl rfl g.tm (by omega) ?_
  simp
  refine reprT g.tm (by omega) (by have := g.long; omega) ?_
  simp
  rw [e1, e2]
  simp
  refine same_int rfl rfl rfl ?_
  simp
  exact q
theorem partC {xs : List D} {r H : Hd} {t : D} {t0 t1 t4 t5 : Option D} {e : Hd} (g : PT t)
    (q : nxt ⟨wpCall gl F 98, cx⟩ gl (nthS 5 b__law_is_term_right) (endZ H Q) [t0, t1, some t, some (.loc (r.length+1)), t4, t5, none, none, none] (.lst xs :: (r ++ .lst (pts 5 t) :: e))) :
    nxt ⟨wpCall gl F 98, cx⟩ gl (nthS 4 b__law_is_term_right) (endZ H Q) [t0, t1, some t, some (.loc (r.length+1)), t4, t5, none, none, none] (.lst xs :: (r ++ .lst (pts 5 t) :: e)) := by
  have hz : sizeLine > 16000000 := by decide
  have hm := g.many
  have lk : (DO.lst xs :: (r ++ .lst (pts 5 t) :: e))[r.length + 1]? = some (.lst (pts 5 t)) := by simp
  refine nxt_of ?_
  rw [show nthS 4 b__law_is_term_right = .seq (hdS (nthS 4 b__law_is_term_right)) (nthS 5 b__law_is_term_right) from rfl]
  generalize nthS 5 b__law_is_term_right = rest at q ⊢
  simp only [hdS, nthS, tlS, b__law_is_term_right]
  generalize DO.lst xs :: (r ++ .lst (pts 5 t) :: e) = HH at lk q ⊢
  simp
  rw [m_gd (tm_gd g.tm)]
  refine unlike_spec (f := 4) (fk := 3) (ft := 0) rfl rfl rfl g.tm (by omega) (by omega) (by have := g.long; omega) ?_
  simp
  rw [m_gd (tm_gd g.tm)]
  refine law_unlike_spec g.T ?_
  simp
  refine same_T (d := 81) g.urow ?_
  simp
  rw [m_gd (tm_gd g.tm)]
  refine names_spec (f := 7) (fp := 2) (ft := 0) rfl rfl rfl g.tm g.nm (by omega) fun us hu1 hu2 hu3 => ?_
  simp [lk]
  rw [show pts 5 t = (pts 5 t).map id by simp]
  refine comp_onf id (fun p => D.str (nameD p)) (fun p => decide (headS p = "of")) (by omega) (by simpa using lk) (fun p hp k s st => ?_) ?_
  · have gp := tm_pts g.tm p hp
    simp
    rw [x_head (tm_sub gp).1]
    simp
    by_cases c : headS p = "of"
    · rw [if_pos c]
      rw [if_pos (by simpa using c)] at st
      obtain ⟨x, as, rfl⟩ := g.nm p hp c
      simp
      exact st
    · rw [if_neg c]
      rw [if_neg (by simpa using c)] at st
      exact st
  · have eN : (List.map (fun p => D.str (nameD p)) (List.filter (fun p => decide (headS p = "of")) (pts 5 t))) = (((pts 5 t).filter fun p => decide (headS p = "of")).map nameD).map D.str := by rw [List.map_map]; rfl
    have ok1 : ∀ u ∈ us, u.length ≤ 1000 := fun u hu => by
      obtain ⟨p, hp, rfl⟩ := List.mem_map.mp ((hu3 u).mp hu)
      obtain ⟨hp, c⟩ := List.mem_filter.mp hp
      obtain ⟨x, as, rfl⟩ := g.nm p hp (by simpa using c)
      have gp := tm_gd (tm_pts g.tm _ hp)
      exact (gp.2 (.str x) (by simp)).1
    have lf := List.length_filter_le (fun p => decide (headS p = "of")) (pts 5 t)
    have nd1 : (us.map D.str).Nodup := by
      exact List.pairwise_map.mpr (List.Pairwise.imp (fun h z => h (by injection z)) hu2)
    have ll := len_sub (us.map D.str) ((((pts 5 t).filter fun p => decide (headS p = "of")).map nameD).map D.str) nd1 fun x hx => by
      obtain ⟨u, hu, rfl⟩ := List.mem_map.mp hx
      exact List.mem_map_of_mem ((hu3 u).mp hu)
    rw [List.length_map, List.length_map, List.length_map] at ll
    rw [eN]
    refine x_sortedTx (by rw [List.length_map]; omega) fun vs hv1 hv2 hv3 => ?_
    have ev : us = vs := sorted_one hu1 hv1 hu2 hv2 (fun k => (hu3 k).trans (hv3 k).symm)
    subst ev
    simp
    refine same_T (n := 2) (d := 96) (okT_strs (by omega) ok1) ?_
    simp
    exact q
end
end K03

namespace K03
open PySem PySem.Spec PyProof.Rows L2 Py
theorem flat_len (n : Nat) : ∀ L : List D, ((L.map (pts n)).flatten.length : Int) = (L.map fun u => ((pts n u).length : Int)).sum
  | [] => rfl
  | u :: L => by
    have := flat_len n L
    simp only [List.map_cons, List.flatten_cons, List.length_append, List.sum_cons]
    omega
theorem size_sub {n : Nat} {t : D} (h : hsh n t) : ((pts n t).length : Int) = 1 + ((insD t).map fun u => ((pts n u).length : Int)).sum := by
  rw [(hsh_sub h).2.2, List.length_cons, ← flat_len]
  omega
section
variable {d : Nat} {h : Hd} {Q : PD} {ex cx : XD}
theorem partD {a : Nat} {HH H : Hd} {t : D} {t0 t1 t4 t5 : Option D} (g : PT t) (lk : HH[a]? = some (.lst (pts 5 t)))
    (q : nxt ⟨wpCall gl F 98, cx⟩ gl (nthS 6 b__law_is_term_right) (endZ H Q) [t0, t1, some t, some (.loc a), t4, t5, none, none, none] HH) :
    nxt ⟨wpCall gl F 98, cx⟩ gl (nthS 5 b__law_is_term_right) (endZ H Q) [t0, t1, some t, some (.loc a), t4, t5, none, none, none] HH := by
  have hz : sizeLine > 16000000 := by decide
  have hm := g.many
  have gt := tm_gd g.tm
  have li := gd_ins (tm_sub g.tm).1 gt
  have es := size_sub (tm_hsh g.tm)
  refine nxt_of ?_
  rw [show nthS 5 b__law_is_term_right = .seq (hdS (nthS 5 b__law_is_term_right)) (nthS 6 b__law_is_term_right) from rfl]
  generalize nthS 6 b__law_is_term_right = rest at q ⊢
  simp only [hdS, nthS, tlS, b__law_is_term_right]
  simp
  rw [m_gd gt]
  refine size_spec (f := 5) (fp := 2) (ft := 0) rfl rfl rfl (gd_ok gt) (tm_hsh g.tm) (by omega) ?_
  rw [m_gd gt]
  refine inside16 g.tm ?_
  simp
  rw [show insD t = (insD t).map id by simp]
  refine comp_on id (fun u => D.int ((pts 5 u).length)) (by omega) trivial (fun u hu k st => ?_) ?_
  · have gu := (tm_sub g.tm).2.2 u hu
    have lu : (pts 5 u).length ≤ (pts 5 t).length := by
      rw [(hsh_sub (tm_hsh g.tm)).2.2, List.length_cons]
      have := List.Sublist.length_le (List.sublist_flatten_of_mem (List.mem_map_of_mem (f := pts 5) hu))
      omega
    simp
    rw [m_gd (tm_gd gu)]
    refine size_spec (f := 5) (fp := 2) (ft := 0) rfl rfl rfl (gd_ok (tm_gd gu)) (tm_hsh gu) (by omega) ?_
    simp
    exact st
  · rw [x_sum (ns := (insD t).map fun u => ((pts 5 u).length : Int)) (by simp [lstOf])]
    simp
    rw [← es]
    simp
    rw [m_gd gt]
    refine unlike_spec (f := 4) (fk := 3) (ft := 0) rfl rfl rfl g.tm (by omega) (by omega) (by have := g.long; omega) ?_
    simp
    have ul := g.uqs
    have hut : ∀ u ∈ uq 5 t, tm 5 u ∧ tlen u ≤ 16000000 := fun u hu => g.T.part ((uq_mem (tm_hsh g.tm) u).mp hu)
    have hum := uq_mem (tm_hsh g.tm)
    rw [show uq 5 t = (uq 5 t).map id by simp]
    refine comp_on id (fun u => D.str u.pd.shown) (by omega) trivial (fun u hu k st => ?_) ?_
    · simp
      refine reprT (hut u hu).1 (by omega) (hut u hu).2 ?_
      simp
      exact st
    · rw [show (uq 5 t).map (fun u => D.str u.pd.shown) = ((uq 5 t).map fun u => u.pd.shown).map D.str by rw [List.map_map]; rfl]
      refine x_sortedTx (by rw [List.length_map]; omega) fun us hu1 hu2 hu3 => ?_
      simp [lk]
      rw [show pts 5 t = (pts 5 t).map id by simp]
      refine comp_on id (fun u => D.str u.pd.shown) (by omega) (by simpa using lk) (fun u hu k st => ?_) ?_
      · simp
        refine reprT (g.T.part hu).1 (by omega) (g.T.part hu).2 ?_
        simp
        exact st
      · rw [show (pts 5 t).map (fun u => D.str u.pd.shown) = ((pts 5 t).map fun u => u.pd.shown).map D.str by rw [List.map_map]; rfl]
        refine x_sortedTx (by rw [List.length_map]; omega) fun vs hv1 hv2 hv3 => ?_
        have ev : us = vs := sorted_one hu1 hv1 hu2 hv2 fun k => by
          rw [hu3, hv3, List.mem_map, List.mem_map]
          constructor
          · rintro ⟨x, hx, e⟩
            exact ⟨x, (hum x).mp hx, e⟩
          · rintro ⟨x, hx, e⟩
            exact ⟨x, (hum x).mpr hx, e⟩
        subst ev
        rw [x_neTx fun u hu => by
          obtain ⟨x, hx, rfl⟩ := List.mem_map.mp ((hu3 u).mp hu)
          exact text_lay (tm_gd (hut x hx).1)]
        simp
        exact q
theorem partE {a : Nat} {R H : Hd} {xs : List Int} {t : D} {t0 t1 t4 t5 : Option D} (g : PT t) (lk : R[a]? = some (.lst (pts 5 t)))
    (q : ∀ (one : D) (ys : List Int), one ∈ pts 5 t → nxt ⟨wpCall gl F 98, cx⟩ gl (nthS 7 b__law_is_term_right) (endZ H Q) [some (.loc 0), t1, some t, some (.loc (a+1)), t4, t5, none, some one, none] (.lst (ys.map D.int) :: R)) :
    nxt ⟨wpCall gl F 98, cx⟩ gl (nthS 6 b__law_is_term_right) (endZ H Q) [some (.loc 0), t1, some t, some (.loc (a+1)), t4, t5, none, none, none] (.lst (xs.map D.int) :: R) := by
  have hz : sizeLine > 16000000 := by decide
  have hm := g.many
  refine nxt_of ?_
  rw [show nthS 6 b__law_is_term_right = .seq (hdS (nthS 6 b__law_is_term_right)) (nthS 7 b__law_is_term_right) from rfl]
  generalize nthS 7 b__law_is_term_right = rest at q ⊢
  simp only [hdS, nthS, tlS, b__law_is_term_right]
  simp [lk]
  have hp := List.length_pos_of_mem g.in_
  refine take2_spec (f := 10) rfl (by omega) fun n ys hn => ?_
  have hn : n < (pts 5 t).length := by omega
  obtain ⟨b, hb⟩ : ∃ b, (pts 5 t)[n]? = some b := ⟨_, List.getElem?_eq_getElem hn⟩
  have hbm := List.mem_of_getElem? hb
  have eb : atI (pts 5 t) (n : Int) = some b := by
    unfold atI
    rw [ixN_nat hn]
    exact hb
  simp [natD, lk, eb]
  rw [m_gd (tm_gd (tm_pts g.tm b hbm))]
  exact q b ys hbm
end
end K03

namespace K03
open PySem PySem.Spec PyProof.Rows L2 Py
/-- what is put in -/
structure PO (x : D) : Prop where
  tm : tm 6 x
  many : (pts 6 x).length ≤ 121
  long : tlen x ≤ 36100
theorem zz_tm : tm 1 zz := by
  refine ⟨(zz_hsh (n := 0)).1, ?_, fun u hu => by cases hu⟩
  exact ⟨by decide, fun x hx => by
    have hx : x ∈ [D.str "of", D.str "zz", D.tup []] := hx
    simp only [List.mem_cons, List.not_mem_nil, or_false] at hx
    rcases hx with rfl | rfl | rfl
    · exact ⟨by decide, by decide +kernel⟩
    · exact ⟨by decide, by decide +kernel⟩
    · exact ⟨by decide, fun x hx => by cases hx⟩⟩
theorem zz_po : PO zz := ⟨tm_le zz_tm (by omega), by decide +kernel, by decide +kernel⟩
theorem part_len : ∀ {n : Nat} {t x : D}, tm n t → x ∈ pts n t → (pts n x).length ≤ (pts n t).length
  | 0, _, _, h, _ => h.elim
  | n + 1, t, x, h, hx => by
    have hp : pts (n + 1) t = t :: ((insD t).map (pts n)).flatten := rfl
    rw [hp] at hx
    rcases List.mem_cons.mp hx with rfl | hx
    · exact Nat.le_refl _
    · obtain ⟨l, hl, hx⟩ := List.mem_flatten.mp hx
      obtain ⟨u, hu, rfl⟩ := List.mem_map.mp hl
      have hu2 := h.2.2 u hu
      have := part_len hu2 hx
      have hxh : hsh n x := tm_hsh (tm_pts hu2 x hx)
      rw [(hsh_mono hxh).2, hp, List.length_cons]
      have := List.Sublist.length_le (List.sublist_flatten_of_mem (List.mem_map_of_mem (f := pts n) hu))
      omega
theorem one_po {t one : D} (g : PT t) (h : one ∈ pts 5 t) : PO one := by
  have g1 := tm_pts g.tm one h
  have hh := tm_hsh g.tm
  have hm := g.many
  refine ⟨tm_mono g1, ?_, ?_⟩
  · rw [(hsh_mono (tm_hsh g1)).2]
    have := part_len g.tm h
    omega
  · have := g.long
    rw [(hsh_sub hh).2.2] at h
    rcases List.mem_cons.mp h with rfl | h
    · omega
    · obtain ⟨l, hl, hp⟩ := List.mem_flatten.mp h
      obtain ⟨u, hu, rfl⟩ := List.mem_map.mp hl
      have := pts_short hh u hu one hp
      omega
theorem if_po {t c one : D} (g : PT t) (h : one ∈ pts 5 t) (gc : PT c) : PO (.tup [.str "if", c, one, one]) := by
  have g1 := tm_pts g.tm one h
  have hh := tm_hsh g.tm
  have hm := g.many
  have hmc := gc.many
  have hl := g.long
  have hlc := gc.long
  have l1 : tlen one ≤ 12000 := by
    have h := h
    rw [(hsh_sub hh).2.2] at h
    rcases List.mem_cons.mp h with rfl | h
    · omega
    · obtain ⟨l, hl, hp⟩ := List.mem_flatten.mp h
      obtain ⟨u, hu, rfl⟩ := List.mem_map.mp hl
      have := pts_short hh u hu one hp
      omega
  have m1 := part_len g.tm h
  have ei : insD (.tup [.str "if", c, one, one]) = [c, one, one] := insL_flat (by decide) (by decide) (by decide)
  refine ⟨⟨⟨"if", [c, one, one], rfl, fun z => absurd z (by decide), fun z => absurd z (by decide), fun z => by rcases z with z | z <;> exact absurd z (by decide)⟩, ?_, ?_⟩, ?_, ?_⟩
  · rw [with_flat (by decide) (by decide) (by decide), zer, ei]
    exact ⟨by simp, fun x hx => by
      simp only [List.mem_cons, List.not_mem_nil, or_false, List.map_cons, List.map_nil] at hx
      rcases hx with rfl | rfl | rfl | rfl
      · exact ⟨by decide, by decide +kernel⟩
      all_goals (show (0 : Int).natAbs.log2 < 1920; decide +kernel)⟩
  · rw [ei]
    intro u hu
    simp only [List.mem_cons, List.not_mem_nil, or_false] at hu
    rcases hu with rfl | rfl | rfl
    · exact gc.tm
    · exact g1
    · exact g1
  · show (_ :: ((insD (.tup [.str "if", c, one, one])).map (pts 5)).flatten).length ≤ _
    rw [ei]
    simp
    omega
  · rw [tlen_tup]
    have : tlen (.str "if") = 4 := by decide +kernel
    simp [ov, this]
    omega
theorem put_T {t one x : D} (g : PT t) (gx : PO x) : Tm 11 (putD one x 5 t) := by
  have hh := tm_hsh g.tm
  have hm := g.many
  have hl := g.long
  refine ⟨put_tm gx.tm g.tm, by omega, ?_, ?_⟩
  · have := put_many (one := one) (tm_hsh gx.tm) hh
    have h2 : (pts 5 t).length * (pts 6 x).length ≤ 40 * 121 := Nat.mul_le_mul hm gx.many
    have e : (5 : Nat) + 6 = 11 := rfl
    rw [e] at this
    omega
  · have := put_tlen (one := one) (other := x) hh
    have h2 : (pts 5 t).length * tlen x ≤ 40 * 36100 := Nat.mul_le_mul hm gx.long
    omega
section
variable {d : Nat} {h : Hd} {Q : PD} {ex cx : XD}
theorem partF {a : Nat} {R H : Hd} {P : Str → List D} {xs : List Int} {t one : D} {t4 t5 : Option D} (g : PT t) (h1 : one ∈ pts 5 t) (lk : R[a]? = some (.lst (pts 5 t))) (rp : R[3]? = some (.dct false keysP valsP)) (r0 : R[idxP "truth"]? = some (.lst (P "truth"))) (gP : ∀ u ∈ P "truth", PT u) (nP : P "truth" ≠ []) (lP : (P "truth").length ≤ 40)
    (q : ∀ (ys : List Int) (t8 : Option D), nxt ⟨wpCall gl F 98, cx⟩ gl (nthS 8 b__law_is_term_right) (endZ H Q) [some (.loc 0), some (.loc 4), some t, some (.loc (a+1)), t4, t5, none, some one, t8] (.lst (ys.map D.int) :: R)) :
    nxt ⟨wpCall gl F 98, cx⟩ gl (nthS 7 b__law_is_term_right) (endZ H Q) [some (.loc 0), some (.loc 4), some t, some (.loc (a+1)), t4, t5, none, some one, none] (.lst (xs.map D.int) :: R) := by
  have hz : sizeLine > 16000000 := by decide
  have hm := g.many
  have mt : ("truth" : Str) ∈ sorts := by simp [sorts]
  have g1 := tm_pts g.tm one h1
  refine nxt_of ?_
  rw [show nthS 7 b__law_is_term_right = .seq (hdS (nthS 7 b__law_is_term_right)) (nthS 8 b__law_is_term_right) from rfl]
  generalize nthS 8 b__law_is_term_right = rest at q ⊢
  simp only [hdS, nthS, tlS, b__law_is_term_right]
  simp [rp]
  rw [m_gd (tm_gd g1)]
  (repeat refine ⟨by omega, ?_⟩)
  rw [show (DO.lst (List.map D.int xs) :: R)[4]? = some (.dct false keysP valsP) from rp]
  simp only []
  rw [getP mt]
  simp
  refine pick_spec (f := 15) (ft := 10) (m := 16) rfl rfl r0 nP (by omega) (fun u hu => gd_ok (tm_gd (gP u hu).tm)) fun c ys hc => ?_
  have gc := gP c hc
  rw [m_gd (tm_gd gc.tm), m_gd (tm_gd g1), m_gd (tm_gd g1)]
  (repeat refine ⟨by omega, ?_⟩)
  have hall : ∀ x ∈ [zz, one, .tup [.str "if", c, one, one]], PO x := fun x hx => by
    simp only [List.mem_cons, List.not_mem_nil, or_false] at hx
    rcases hx with rfl | rfl | rfl
    · exact zz_po
    · exact one_po g h1
    · exact if_po g h1 gc
  rw [show [D.tup [.str "of", .str "zz", .tup []], one, .tup [.str "if", c, one, one]] = [zz, one, .tup [.str "if", c, one, one]] from rfl]
  generalize [zz, one, .tup [.str "if", c, one, one]] = L at hall ⊢
  refine for_inv (fun i τ h' => ∃ (t8 : Option D), h' = .lst (ys.map D.int) :: R ∧ τ = [some (.loc 0), some (.loc 4), some t, some (.loc (a+1)), t4, t5, none, some one, t8]) ⟨_, rfl, rfl⟩ ?_ ?_
  · rintro i x τ h' k hx ⟨t8, rfl, rfl⟩ hk
    have px := hall x (List.mem_of_getElem? hx)
    have gp := put_T (one := one) g px
    refine ⟨trivial, ?_⟩
    simp
    rw [m_gd (tm_gd g.tm), m_gd (tm_gd g1), m_gd (tm_gd px.tm)]
    refine put_in_spec g.T px.tm g1 (by omega) (by omega) ?_
    rw [m_gd (tm_gd gp.tm)]
    refine fits_spec gp fun b => ?_
    simp
    cases b
    · simp
      exact hk _ _ ⟨_, rfl, rfl⟩
    · simp
      rw [m_gd (tm_gd g.tm), m_gd (tm_gd g1), m_gd (tm_gd px.tm)]
      refine put_for_spec (d := 92) (N := 5) (ft := 0) (fw := 1) rfl rfl rfl px.tm g1 (by omega) (by omega) 5 t _ _ _ (by omega) g.tm ?_
      rw [m_gd (tm_gd gp.tm), m_gd (tm_gd g.tm), m_gd (tm_gd g1), m_gd (tm_gd px.tm)]
      refine put_in_spec g.T px.tm g1 (by omega) (by omega) ?_
      rw [m_gd (tm_gd gp.tm)]
      refine same_T (n := 34) (d := 64) (gd_ok (tm_gd gp.tm)) ?_
      simp
      exact hk _ _ ⟨_, rfl, rfl⟩
  · rintro τ h' ⟨t8, rfl, rfl⟩
    exact ⟨trivial, q ys t8⟩
theorem partG {HH H : Hd} {t one : D} {t0 t1 t3 t4 t5 t8 : Option D} (g : PT t) (h1 : one ∈ pts 5 t)
    (q : nxt ⟨wpCall gl F 98, cx⟩ gl (nthS 9 b__law_is_term_right) (endZ H Q) [t0, t1, some t, t3, t4, t5, none, some one, t8] HH) :
    nxt ⟨wpCall gl F 98, cx⟩ gl (nthS 8 b__law_is_term_right) (endZ H Q) [t0, t1, some t, t3, t4, t5, none, some one, t8] HH := by
  have hz : sizeLine > 16000000 := by decide
  have g1 := tm_pts g.tm one h1
  have hh := tm_hsh g.tm
  have gw : tm 6 (putD one zz 5 t) := put_tm (k := 1) zz_tm g.tm
  have e1 : putD zz one 5 t = t := put_id hh g.zf
  have e2 : putD zz one 6 (putD one zz 5 t) = t := by rw [put_mono (put_hsh hh)]; exact put_back hh g.zf
  refine nxt_of ?_
  rw [show nthS 8 b__law_is_term_right = .seq (hdS (nthS 8 b__law_is_term_right)) (nthS 9 b__law_is_term_right) from rfl]
  generalize nthS 9 b__law_is_term_right = rest at q ⊢
  simp only [hdS, nthS, tlS, b__law_is_term_right]
  simp
  rw [show D.tup [.str "of", .str "zz", .tup []] = zz from rfl]
  rw [m_gd (tm_gd g.tm), m_gd (tm_gd g1)]
  (repeat refine ⟨by omega, ?_⟩)
  refine put_for_spec (d := 92) (N := 5) (ft := 0) (fw := 1) rfl rfl rfl g1 zz_tm (by omega) (by omega) 5 t _ _ _ (by omega) g.tm ?_
  rw [e1]
  rw [x_neG (tm_gd g.tm) (tm_gd g.tm) (by omega) (by omega) (tm_tup g.tm) (tm_tup g.tm)]
  simp
  rw [m_gd (tm_gd g.tm), m_gd (tm_gd g1)]
  (repeat refine ⟨by omega, ?_⟩)
  refine put_for_spec (d := 92) (N := 5) (ft := 0) (fw := 1) rfl rfl rfl zz_tm g1 (by omega) (by omega) 5 t _ _ _ (by omega) g.tm ?_
  rw [m_gd (tm_gd gw)]
  (repeat refine ⟨by omega, ?_⟩)
  rw [m_gd (tm_gd g1)]
  refine put_for_spec (d := 91) (N := 6) (ft := 0) (fw := 1) rfl rfl rfl g1 zz_tm (by omega) (by omega) 6 _ _ _ _ (by omega) gw ?_
  rw [e2]
  rw [x_neG (tm_gd g.tm) (tm_gd g.tm) (by omega) (by omega) (tm_tup g.tm) (tm_tup g.tm)]
  simp
  exact q
theorem partH {HH H : Hd} {t one : D} {t0 t1 t3 t4 t5 t8 : Option D} (g : PT t) (h1 : one ∈ pts 5 t)
    (q : ∀ HH2, Ex HH HH2 → Gc H (.bl true) HH2 Q) :
    nxt ⟨wpCall gl F 98, cx⟩ gl (nthS 9 b__law_is_term_right) (endZ H Q) [t0, t1, some t, t3, t4, t5, none, some one, t8] HH := by
  have hz : sizeLine > 16000000 := by decide
  have hm := g.many
  have g1 := tm_pts g.tm one h1
  have hh := tm_hsh g.tm
  have gw : tm 6 (putD one zz 5 t) := put_tm (k := 1) zz_tm g.tm
  have ew : putD one zz 6 t = putD one zz 5 t := put_mono hh
  have zo : ∀ n, zfn n one := by
    obtain ⟨a, b⟩ := zf_pts hh g.zf one h1
    exact zf_all a b
  have hno : ∀ q ∈ pts 6 (putD one zz 5 t), q ≠ one := fun q hq => put_none zo (hsh_mono hh).1 (zf_up hh g.zf) q (by rw [ew]; exact hq)
  have hlen : (pts 6 (putD one zz 5 t)).length ≤ 1000 := by
    have := put_many (one := one) (tm_hsh zz_tm) hh
    have e : (pts 1 zz).length = 1 := rfl
    rw [e] at this
    have e : (5 : Nat) + 1 = 6 := rfl
    rw [e] at this
    omega
  refine nxt_of ?_
  simp only [hdS, nthS, tlS, b__law_is_term_right]
  simp
  rw [show D.tup [.str "of", .str "zz", .tup []] = zz from rfl]
  rw [m_gd (tm_gd g.tm), m_gd (tm_gd g1)]
  (repeat refine ⟨by omega, ?_⟩)
  refine put_for_spec (d := 92) (N := 5) (ft := 0) (fw := 1) rfl rfl rfl zz_tm g1 (by omega) (by omega) 5 t _ _ _ (by omega) g.tm ?_
  rw [m_gd (tm_gd gw)]
  refine parts_of_spec (f := 2) (ft := 0) rfl rfl (gd_ok (tm_gd gw)) (tm_hsh gw) (by omega) ?_
  simp
  rw [show pts 6 (putD one zz 5 t) = (pts 6 (putD one zz 5 t)).map id by simp]
  refine comp_onf id id (fun p => false) (by omega) trivial (fun p hp k s st => ?_) ?_
  · have gp := tm_gd (tm_pts gw p hp)
    simp
    rw [x_eqG gp (tm_gd g1) (by omega) (by omega) (tm_tup (tm_pts gw p hp)) (tm_tup g1)]
    rw [show decide (p = one) = false from decide_eq_false (hno p hp)]
    simpa using st
  · simp
    exact q _ ⟨Nat.le_refl _, fun i hi => rfl⟩
end
end K03

namespace K03
open PySem PySem.Spec PyProof.Rows L2 Py
/-- the pool -/
structure PF (P : Str → List D) : Prop where
  ok : ∀ s ∈ sorts, ∀ t ∈ P s, PT t
  tr : P "truth" ≠ []
  len : ∀ s ∈ sorts, (P s).length ≤ 40
section
variable {d : Nat} {h : Hd} {Q : PD} {ex cx : XD}
theorem right_spec {P : Str → List D} {E : List Ent} {xs : List Int} {e : Hd} {t : D} (g : PT t) (gP : PF P) (q : ∀ ys : List Int, Q (.bl true) (.lst (ys.map D.int) :: rP P E e)) : wpCall gl F 99 24 [.loc 0, .loc 4, t] (.lst (xs.map D.int) :: rP P E e) Q ex := by
  have mt : ("truth" : Str) ∈ sorts := by simp [sorts]
  refine call_of (c := d__law_is_term_right) rfl rfl ?_
  show nxt _ gl b__law_is_term_right _ _ _
  refine partA (r := rP P E e) g fun ks vs t5 hT => ?_
  refine partB (r := rP P E e) g hT ?_
  refine partC (r := rP P E e) g ?_
  have lk : (rP P E e ++ [.lst (pts 5 t), .dct false ks vs])[(rP P E e).length]? = some (.lst (pts 5 t)) := by simp [- rP_app]
  have rp : (rP P E e ++ [.lst (pts 5 t), .dct false ks vs])[3]? = some (.dct false keysP valsP) := rfl
  have r0 : (rP P E e ++ [.lst (pts 5 t), .dct false ks vs])[idxP "truth"]? = some (.lst (P "truth")) := rfl
  refine partD g (a := (rP P E e).length + 1) (by simpa using lk) ?_
  refine partE (t0 := none) g lk fun one ys h1 => ?_
  refine partF g h1 lk rp r0 (gP.ok _ mt) gP.tr (gP.len _ mt) fun ys t8 => ?_
  refine partG g h1 ?_
  refine partH g h1 fun HH2 ex2 => ?_
  obtain ⟨r2, rfl, er⟩ := ex2.tail
  exact gc_dr (Ex.refl.app.trans er) trivial (q ys)
end
end K03

namespace K03
open PySem PySem.Spec PyProof.Rows L2 Py
theorem so_part {S : List Dc} {n : Nat} : ∀ (m : Nat) {t p : D} {s : Str}, so S n t = some s → p ∈ pts m t → ∃ r, so S n p = some r
  | 0, _, _, _, _, h => by cases h
  | m + 1, t, p, s, hs, h => by
    rcases List.mem_cons.mp h with rfl | h
    · exact ⟨s, hs⟩
    · obtain ⟨l, hl, hp⟩ := List.mem_flatten.mp h
      obtain ⟨u, hu, rfl⟩ := List.mem_map.mp hl
      obtain ⟨r, hr⟩ := so_ins (so_mono hs) u hu
      exact so_part m hr hp
theorem so_named {S : List Dc} {n m : Nat} {t : D} {s : Str} (hs : so S n t = some s) : named m t := fun p hp c => by
  obtain ⟨r, hr⟩ := so_part m hs hp
  have sp := so_shp hr
  obtain ⟨k, ts, rfl, c1, _⟩ := sp
  have c : k = "of" := c
  subst c
  obtain ⟨a, as, rfl⟩ := c1 rfl
  obtain ⟨nm, dc, rfl, _⟩ := so_of_inv hr
  exact ⟨nm, _, rfl⟩
theorem pts_le {n m : Nat} {t : D} (h : hsh n t) (hm : n ≤ m) : hsh m t ∧ pts m t = pts n t := by
  induction hm with
  | refl => exact ⟨h, rfl⟩
  | step _ ih => exact ⟨(hsh_mono ih.1).1, (hsh_mono ih.1).2.trans ih.2⟩
theorem pt_of {S : List Dc} {t : D} {s : Str} (sS : Sig S) (hz : S.find? (fun x => decide (x.1 = ("zz" : Str))) = none) (hs : so S 17 t = some s) (ht : fine 50 t) (h1 : szN t ≤ 40) (h2 : dpN t ≤ 5) (h3 : tlen t ≤ 12000) : PT t := by
  have g17 : tm 17 t := so_tm sS hs ht.1 ht.2.1
  have g5 : tm 5 t := tm_cut (tm_le g17 (show 17 ≤ 20 by omega)) h2
  refine ⟨g5, ?_, h3, so_named hs, zf_all (tm_hsh g17) (so_zf hz hs) 5⟩
  have := (pts_le (tm_hsh g5) (show 5 ≤ 20 by omega)).2
  unfold szN at h1
  rw [this] at h1
  omega
theorem pf_of {S : List Dc} {P : Str → List D} {E : List Ent} (sS : Sig S) (hz : S.find? (fun x => decide (x.1 = ("zz" : Str))) = none) (h : TI S 40 5 16 P E) : PF P :=
  ⟨fun s hs t ht => by
    obtain ⟨e, he, hk⟩ := h.key s hs t ht
    have h1 := h.ent.ok e he
    have h2 := h.deep s hs t ht
    have : tlen t = e.1.length := by rw [hk]; rfl
    exact pt_of sS hz (h.so s hs t ht) (h.fin s hs t ht) h2.1 h2.2 (by omega), h.tr, fun s hs => by have := h.len s hs; omega⟩
section
variable {d : Nat} {h : Hd} {Q : PD} {ex cx : XD}
theorem pool_spec {S : List Dc} {xs : List Int} (sS : Sig S) (hz : S.find? (fun x => decide (x.1 = ("zz" : Str))) = none) (q : ∀ (P : Str → List D) (E : List Ent) (ys : List Int) (e : Hd), PF P → Q (.loc 4) (.lst (ys.map D.int) :: rP P E e)) :
    wpCall gl F (d+5) 19 [.loc 0, .tup (S.map dD), .int 16] [.lst (xs.map D.int)] Q ex := by
  refine call_of (c := d__law_pool) rfl rfl ?_
  simp [startD, b__law_pool]
  refine terms_spec (many := 16) (fp := 15) rfl rfl rfl rfl rfl sS (by omega) (by omega) (by omega) (by omega) fun P E ys e hT => ?_
  exact gc_same (q P E ys e (pf_of sS hz hT))
theorem x_slLoP {a : Nat} {xs : List D} {i : Int} (e : h[a]? = some (.lst xs)) : px .slLo [.loc a, .int i] h Q = Q (.tl (cutD xs (some i) none)) h := by simp only [px_eq, wpP, partW, slW, lstOf, e]
theorem cut_mem {xs : List D} {lo hi : Option Int} {x : D} (h : x ∈ cutD xs lo hi) : x ∈ xs := List.mem_of_mem_drop (List.mem_of_mem_take h)
theorem part3 {P : Str → List D} {E : List Ent} {ys : List Int} {e : Hd} {t0 t2 : Option D} (g : PF P)
    (q : ∀ (ys : List Int) (t4 t5 : Option D), nxt ⟨wpCall gl F 99, cx⟩ gl (nthS 4 b_law) (endZ [] Q) [t0, some (.loc 0), t2, some (.loc 4), t4, t5, none, none, none, none] (.lst (ys.map D.int) :: rP P E e)) :
    nxt ⟨wpCall gl F 99, cx⟩ gl (nthS 3 b_law) (endZ [] Q) [t0, some (.loc 0), t2, some (.loc 4), none, none, none, none, none, none] (.lst (ys.map D.int) :: rP P E e) := by
  have hz : sizeLine > 16000000 := by decide
  refine nxt_of ?_
  rw [show nthS 3 b_law = .seq (hdS (nthS 3 b_law)) (nthS 4 b_law) from rfl]
  generalize nthS 4 b_law = rest at q ⊢
  simp only [hdS, nthS, tlS, b_law]
  simp
  refine ⟨by omega, ?_⟩
  refine for_inv (fun i τ h' => ∃ (ys : List Int) (t4 t5 : Option D), h' = .lst (ys.map D.int) :: rP P E e ∧ τ = [t0, some (.loc 0), t2, some (.loc 4), t4, t5, none, none, none, none]) ⟨ys, _, _, rfl, rfl⟩ ?_ ?_
  · rintro i x τ h' k hx ⟨ys, t4, t5, rfl, rfl⟩ hk
    have hs : ∃ s ∈ sorts, x = .str s := by
      have := List.mem_of_getElem? hx
      simp at this
      rcases this with rfl | rfl | rfl <;> exact ⟨_, by simp [sorts], rfl⟩
    obtain ⟨s, hs, rfl⟩ := hs
    refine ⟨trivial, ?_⟩
    simp
    rw [getP hs]
    simp
    rw [x_slLoP (xs := P s) (by simp; exact rP_at hs)]
    simp
    refine for_inv (fun i τ h' => ∃ (ys : List Int) (t5 : Option D), h' = .lst (ys.map D.int) :: rP P E e ∧ τ = [t0, some (.loc 0), t2, some (.loc 4), some (.str s), t5, none, none, none, none]) ⟨ys, _, rfl, rfl⟩ ?_ ?_
    · rintro j t τ h' k' ht ⟨ys, t5, rfl, rfl⟩ hk'
      have gt := g.ok s hs t (cut_mem (List.mem_of_getElem? ht))
      refine ⟨trivial, ?_⟩
      simp
      rw [m_gd (tm_gd gt.tm)]
      refine right_spec gt g fun ys => ?_
      simp
      exact hk' _ _ ⟨ys, _, rfl, rfl⟩
    · rintro τ h' ⟨ys, t5, rfl, rfl⟩
      exact ⟨trivial, hk _ _ ⟨ys, _, _, rfl, rfl⟩⟩
  · rintro τ h' ⟨ys, t4, t5, rfl, rfl⟩
    exact ⟨trivial, q ys t4 t5⟩
end
end K03

namespace K03
open PySem PySem.Spec PyProof.Rows L2 Py
def fixS : List Dc := [("p", [], "truth", none, none), ("q", [], "truth", none, none), ("x", [], "whole", some 0, some 3), ("f", ["whole"], "whole", some 0, some 3)]
theorem fix_sig : Sig fixS := by
  refine ⟨fun x hx => ?_, by decide +kernel, by decide⟩
  simp only [fixS, List.mem_cons, List.not_mem_nil, or_false] at hx
  rcases hx with rfl | rfl | rfl | rfl
  · exact truth_ok (by decide +kernel) (by simp) (by simp)
  · exact truth_ok (by decide +kernel) (by simp) (by simp)
  · exact whole_ok (by decide +kernel) (by simp) (by simp) (by omega) (by decide)
  · exact whole_ok (by decide +kernel) (by simp [kinds]) (by simp) (by omega) (by decide)
theorem fix_zz : fixS.find? (fun x => decide (x.1 = ("zz" : Str))) = none := by decide +kernel
def okB : Nat → D → Bool
  | 0, _ => false
  | n + 1, .tup xs => decide (xs.length ≤ 1000) && xs.all (okB n)
  | _ + 1, .str x => decide (x.length ≤ 1000)
  | _ + 1, .non => true
  | _ + 1, .bl _ => true
  | _ + 1, .int _ => true
  | _ + 1, _ => false
theorem okB_ok : ∀ {n : Nat} {x : D}, okB n x = true → okT n x
  | 0, _, h => by cases h
  | n + 1, .tup xs, h => by
    simp only [okB, Bool.and_eq_true, decide_eq_true_eq] at h
    exact ⟨h.1, fun x hx => okB_ok (List.all_eq_true.mp h.2 x hx)⟩
  | _ + 1, .str x, h => by
    have h : decide (x.length ≤ 1000) = true := h
    show x.length ≤ 1000
    exact of_decide_eq_true h
  | _ + 1, .non, _ => trivial
  | _ + 1, .bl _, _ => trivial
  | _ + 1, .int _, _ => trivial
  | _ + 1, .loc _, h => by cases h
  | _ + 1, .tl _, h => by cases h
  | _ + 1, .td _ _ _, h => by cases h
  | _ + 1, .rl _, h => by cases h
theorem fix_pt {t : D} {s : Str} (hs : so fixS 17 t = some s) (o : okB 50 t = true) (h1 : t.pd.showable = true) (h2 : t.pd.canLay0 = true) (h3 : decide (szN t ≤ 40) = true) (h4 : decide (dpN t ≤ 5) = true) (h5 : decide (tlen t ≤ 12000) = true) : PT t :=
  pt_of fix_sig fix_zz hs ⟨okB_ok o, h1, h2⟩ (of_decide_eq_true h3) (of_decide_eq_true h4) (of_decide_eq_true h5)
def tP : D := .tup [.str "of", .str "p", .tup []]
def tQ : D := .tup [.str "of", .str "q", .tup []]
def tX : D := .tup [.str "of", .str "x", .tup []]
def nP : D := .tup [.str "not", tP]
def both : D := .tup [.str "all", .tup [tP, nP, tQ]]
def n1 : D := .tup [.str "sum", .tup [], .int 1]
def total : D := .tup [.str "sum", .tup [.tup [.int 2, tX], .tup [.int (-1), .tup [.str "of", .str "f", .tup [tX]]]], .int 4]
def total2 : D := .tup [.str "sum", .tup [.tup [.int 2, n1], .tup [.int (-1), .tup [.str "of", .str "f", .tup [n1]]]], .int 4]
def tYes : D := .tup [.str "yes"]
def tAll : D := .tup [.str "all", .tup []]
theorem p_P : PT tP := fix_pt (s := "truth") (by decide +kernel) (by decide +kernel) (by decide +kernel) (by decide +kernel) (by decide +kernel) (by decide +kernel) (by decide +kernel)
theorem p_nP : PT nP := fix_pt (s := "truth") (by decide +kernel) (by decide +kernel) (by decide +kernel) (by decide +kernel) (by decide +kernel) (by decide +kernel) (by decide +kernel)
theorem p_X : PT tX := fix_pt (s := "whole") (by decide +kernel) (by decide +kernel) (by decide +kernel) (by decide +kernel) (by decide +kernel) (by decide +kernel) (by decide +kernel)
theorem p_n1 : PT n1 := fix_pt (s := "whole") (by decide +kernel) (by decide +kernel) (by decide +kernel) (by decide +kernel) (by decide +kernel) (by decide +kernel) (by decide +kernel)
theorem p_both : PT both := fix_pt (s := "truth") (by decide +kernel) (by decide +kernel) (by decide +kernel) (by decide +kernel) (by decide +kernel) (by decide +kernel) (by decide +kernel)
theorem p_total : PT total := fix_pt (s := "whole") (by decide +kernel) (by decide +kernel) (by decide +kernel) (by decide +kernel) (by decide +kernel) (by decide +kernel) (by decide +kernel)
theorem p_yes : PT tYes := fix_pt (s := "truth") (by decide +kernel) (by decide +kernel) (by decide +kernel) (by decide +kernel) (by decide +kernel) (by decide +kernel) (by decide +kernel)
theorem p_all : PT tAll := fix_pt (s := "truth") (by decide +kernel) (by decide +kernel) (by decide +kernel) (by decide +kernel) (by decide +kernel) (by decide +kernel) (by decide +kernel)
section
variable {d : Nat} {h : Hd} {Q : PD} {ex cx : XD}
@[simp ↓] theorem m_tP : mat tP h Q = Q tP h := rfl
@[simp ↓] theorem m_tQ : mat tQ h Q = Q tQ h := rfl
@[simp ↓] theorem m_nP : mat nP h Q = Q nP h := rfl
@[simp ↓] theorem m_both : mat both h Q = Q both h := rfl
@[simp ↓] theorem m_total : mat total h Q = Q total h := rfl
@[simp ↓] theorem m_total2 : mat total2 h Q = Q total2 h := rfl
theorem m_pt {t : D} (g : PT t) : mat t h Q = Q t h := m_gd (tm_gd g.tm)
theorem parts_f {t : D} (g : PT t) (ps : List D) (e : pts 5 t = ps) (q : Q (.tup ps) h) : wpCall gl F 99 2 [t] h Q ex :=
  parts_of_spec (f := 2) (ft := 0) rfl rfl (gd_ok (tm_gd g.tm)) (tm_hsh g.tm) (by have := g.many; omega) (by rw [e]; exact q)
theorem unlike_f {t : D} (g : PT t) (ps : List D) (e : uq 5 t = ps) (q : Q (.tup ps) h) : wpCall gl F 99 4 [t] h Q ex :=
  unlike_spec (f := 4) (fk := 3) (ft := 0) rfl rfl rfl g.tm (by omega) (by have := g.many; omega) (by have := g.long; omega) (by rw [e]; exact q)
theorem size_f {t : D} (g : PT t) (k : Int) (e : ((pts 5 t).length : Int) = k) (q : Q (.int k) h) : wpCall gl F 99 5 [t] h Q ex :=
  size_spec (f := 5) (fp := 2) (ft := 0) rfl rfl rfl (gd_ok (tm_gd g.tm)) (tm_hsh g.tm) (by have := g.many; omega) (by rw [e]; exact q)
theorem depth_f {t : D} (g : PT t) (k : Int) (e : dpn 5 t = k) (q : Q (.int k) h) : wpCall gl F 99 6 [t] h Q ex :=
  depth_spec (f := 6) (ft := 0) rfl rfl g.tm (by have := g.many; omega) (by rw [e]; exact q)
theorem names_f {t : D} (g : PT t) (vs : List Str) (e : (decide (sortedS vs = true) && decide vs.Nodup && (((pts 5 t).filter fun p => decide (headS p = "of")).map nameD).all (fun k => decide (k ∈ vs)) && vs.all (fun k => decide (k ∈ ((pts 5 t).filter fun p => decide (headS p = "of")).map nameD))) = true) (q : Q (.tup (vs.map D.str)) h) : wpCall gl F 99 7 [t] h Q ex := by
  simp only [Bool.and_eq_true, decide_eq_true_eq, List.all_eq_true] at e
  obtain ⟨⟨⟨e1, e2⟩, e3⟩, e4⟩ := e
  refine names_spec (f := 7) (fp := 2) (ft := 0) rfl rfl rfl g.tm g.nm (by have := g.many; omega) fun us h1 h2 h3 => ?_
  rw [sorted_one h1 e1 h2 e2 fun k => by rw [h3]; exact ⟨e3 k, e4 k⟩]
  exact q
theorem put_f {t one other : D} (g : PT t) (g1 : PT one) (go : PT other) (w : D) (e : putD one other 5 t = w) (q : Q w h) : wpCall gl F 99 8 [t, one, other] h Q ex :=
  put_for_spec (d := 93) (N := 5) (ft := 0) (fw := 1) rfl rfl rfl go.tm g1.tm (by omega) (by omega) 5 t _ _ _ (by omega) g.tm (by rw [e]; exact q)
theorem same_f {a b : D} (e : a = b) (o : okB 17 a = true) (q : Q (.bl true) h) : wpCall gl F 99 11 [a, b] h Q ex := by
  subst e
  exact same_T (n := 17) (d := 82) (okB_ok o) q
theorem part4 {t0 t1 t2 t3 t4 t5 : Option D} {HH : Hd} (q : Q (.bl true) []) :
    nxt ⟨wpCall gl F 99, cx⟩ gl (nthS 4 b_law) (endZ [] Q) [t0, t1, t2, t3, t4, t5, none, none, none, none] HH := by
  have hz : sizeLine > 16000000 := by decide
  have fin : ∀ h' : Hd, Gc [] (.bl true) h' Q := fun h' => gc_ex ⟨Nat.zero_le _, fun i hi => absurd hi (Nat.not_lt_zero _)⟩ trivial q
  refine nxt_of ?_
  simp only [nthS, tlS, b_law]
  simp
  (repeat refine ⟨by omega, ?_⟩)
  rw [show D.tup [.str "of", .str "p", .tup []] = tP from rfl]
  refine nxt_of ?_
  simp
  (repeat refine ⟨by omega, ?_⟩)
  rw [show D.tup [.str "of", .str "q", .tup []] = tQ from rfl]
  refine nxt_of ?_
  simp
  (repeat refine ⟨by omega, ?_⟩)
  rw [show D.tup [.str "all", .tup [tP, .tup [.str "not", tP], tQ]] = both from rfl]
  refine nxt_of ?_
  simp
  refine parts_f p_both [both, tP, nP, tP, tQ] (by decide +kernel) ?_
  simp
  (repeat refine ⟨by omega, ?_⟩)
  refine same_f rfl (by decide +kernel) ?_
  simp
  refine unlike_f p_both [tP, nP, tQ, both] (by decide +kernel) ?_
  simp
  (repeat refine ⟨by omega, ?_⟩)
  refine same_f rfl (by decide +kernel) ?_
  simp
  refine size_f p_both 5 (by decide +kernel) ?_
  simp
  refine same_f rfl (by decide +kernel) ?_
  simp
  refine depth_f p_both 3 (by decide +kernel) ?_
  simp
  refine same_f rfl (by decide +kernel) ?_
  simp
  refine nxt_of ?_
  simp
  (repeat refine ⟨by omega, ?_⟩)
  refine put_f p_both p_P p_nP (.tup [.str "all", .tup [nP, .tup [.str "not", nP], tQ]]) (by decide +kernel) ?_
  simp
  (repeat refine ⟨by omega, ?_⟩)
  refine same_f rfl (by decide +kernel) ?_
  simp
  refine nxt_of ?_
  simp
  (repeat refine ⟨by omega, ?_⟩)
  refine put_f p_both p_nP p_P (.tup [.str "all", .tup [tP, tP, tQ]]) (by decide +kernel) ?_
  simp
  (repeat refine ⟨by omega, ?_⟩)
  refine same_f rfl (by decide +kernel) ?_
  simp
  refine names_f p_both ["p", "q"] (by decide +kernel) ?_
  simp
  (repeat refine ⟨by omega, ?_⟩)
  refine same_f rfl (by decide +kernel) ?_
  simp
  refine nxt_of ?_
  simp
  (repeat refine ⟨by omega, ?_⟩)
  rw [show D.tup [.str "sum", .tup [.tup [.int 2, .tup [.str "of", .str "x", .tup []]], .tup [.int (-1), .tup [.str "of", .str "f", .tup [.tup [.str "of", .str "x", .tup []]]]]], .int 4] = total from rfl]
  refine nxt_of ?_
  simp
  (repeat refine ⟨by omega, ?_⟩)
  refine put_f p_total p_X p_n1 total2 (by decide +kernel) ?_
  simp
  (repeat refine ⟨by omega, ?_⟩)
  refine same_f rfl (by decide +kernel) ?_
  simp
  refine nxt_of ?_
  simp
  refine names_f p_total ["f", "x"] (by decide +kernel) ?_
  simp
  (repeat refine ⟨by omega, ?_⟩)
  refine same_f rfl (by decide +kernel) ?_
  simp
  (repeat refine ⟨by omega, ?_⟩)
  refine parts_f p_yes [tYes] (by decide +kernel) ?_
  simp
  (repeat refine ⟨by omega, ?_⟩)
  refine same_f rfl (by decide +kernel) ?_
  simp
  (repeat refine ⟨by omega, ?_⟩)
  refine depth_f p_all 1 (by decide +kernel) ?_
  simp
  refine same_f rfl (by decide +kernel) ?_
  simp
  refine size_f p_total 4 (by decide +kernel) ?_
  simp
  refine same_f rfl (by decide +kernel) ?_
  (try simp)
  exact fin _
end
theorem law_ok (ns : List Int) (hl : ns.length ≤ 63) : wpCall gl F 100 25 [.rl (ns.map D.int)] [] (fun v _ => v = .bl true) noX := by
  have hz : sizeLine > 16000000 := by decide
  refine call_of (c := d_law) rfl rfl ?_
  have p3 := @part3
  have p4 := @part4
  rw [show d_law.body = .seq (hdS (nthS 0 b_law)) (.seq (hdS (nthS 1 b_law)) (.seq (hdS (nthS 2 b_law)) (nthS 3 b_law))) from rfl]
  generalize nthS 3 b_law = r3 at p3 ⊢
  generalize nthS 4 b_law = r4 at p3 p4
  simp only [hdS, nthS, tlS, b_law]
  simp [startD]
  refine draws1_spec (f := 9) (m := 400) rfl rfl rfl hl (by omega) fun xs => ?_
  simp
  refine nxt_of ?_
  simp
  refine signature_spec (r := []) (fs := 13) rfl rfl rfl rfl fun S ys h1 h2 h3 h4 => ?_
  have sS : Sig S := ⟨h1, h2, h4⟩
  have hzz : S.find? (fun x => decide (x.1 = ("zz" : Str))) = none := by
    rw [List.find?_eq_none]
    intro x hx z
    have z : x.1 = ("zz" : Str) := by simpa using z
    have := h3 x.1 (List.mem_map_of_mem hx)
    rw [z] at this
    exact absurd this (by decide +kernel)
  simp
  refine nxt_of ?_
  simp
  refine pool_spec sS hzz fun P E ys e g => ?_
  simp
  refine p3 g fun ys t4 t5 => ?_
  exact p4 rfl
end K03

namespace K03
open PySem PySem.Spec PyProof.Rows L2 Py
/-! ### the texts -/
theorem sc_terms_in : FnScope d_terms_in.N d_terms_in.ps (defScope d_terms_in.st) := ⟨rfl, rfl, rfl, by decide +kernel, rfl, by decide +kernel, by decide +kernel⟩
theorem ck_terms_in : chkB T d_terms_in.N d_terms_in.body (defScope d_terms_in.st) (defBody d_terms_in.st) = true := by decide +kernel
theorem sc_with_terms : FnScope d_with_terms.N d_with_terms.ps (defScope d_with_terms.st) := ⟨rfl, rfl, rfl, by decide +kernel, rfl, by decide +kernel, by decide +kernel⟩
theorem ck_with_terms : chkB T d_with_terms.N d_with_terms.body (defScope d_with_terms.st) (defBody d_with_terms.st) = true := by decide +kernel
theorem sc_parts_of : FnScope d_parts_of.N d_parts_of.ps (defScope d_parts_of.st) := ⟨rfl, rfl, rfl, by decide +kernel, rfl, by decide +kernel, by decide +kernel⟩
theorem ck_parts_of : chkB T d_parts_of.N d_parts_of.body (defScope d_parts_of.st) (defBody d_parts_of.st) = true := by decide +kernel
theorem sc_key_of : FnScope d_key_of.N d_key_of.ps (defScope d_key_of.st) := ⟨rfl, rfl, rfl, by decide +kernel, rfl, by decide +kernel, by decide +kernel⟩
theorem ck_key_of : chkB T d_key_of.N d_key_of.body (defScope d_key_of.st) (defBody d_key_of.st) = true := by decide +kernel
theorem sc_unlike_parts : FnScope d_unlike_parts.N d_unlike_parts.ps (defScope d_unlike_parts.st) := ⟨rfl, rfl, rfl, by decide +kernel, rfl, by decide +kernel, by decide +kernel⟩
theorem ck_unlike_parts : chkB T d_unlike_parts.N d_unlike_parts.body (defScope d_unlike_parts.st) (defBody d_unlike_parts.st) = true := by decide +kernel
theorem sc_size_of : FnScope d_size_of.N d_size_of.ps (defScope d_size_of.st) := ⟨rfl, rfl, rfl, by decide +kernel, rfl, by decide +kernel, by decide +kernel⟩
theorem ck_size_of : chkB T d_size_of.N d_size_of.body (defScope d_size_of.st) (defBody d_size_of.st) = true := by decide +kernel
theorem sc_depth_of : FnScope d_depth_of.N d_depth_of.ps (defScope d_depth_of.st) := ⟨rfl, rfl, rfl, by decide +kernel, rfl, by decide +kernel, by decide +kernel⟩
theorem ck_depth_of : chkB T d_depth_of.N d_depth_of.body (defScope d_depth_of.st) (defBody d_depth_of.st) = true := by decide +kernel
theorem sc_names_in : FnScope d_names_in.N d_names_in.ps (defScope d_names_in.st) := ⟨rfl, rfl, rfl, by decide +kernel, rfl, by decide +kernel, by decide +kernel⟩
theorem ck_names_in : chkB T d_names_in.N d_names_in.body (defScope d_names_in.st) (defBody d_names_in.st) = true := by decide +kernel
theorem sc_put_for : FnScope d_put_for.N d_put_for.ps (defScope d_put_for.st) := ⟨rfl, rfl, rfl, by decide +kernel, rfl, by decide +kernel, by decide +kernel⟩
theorem ck_put_for : chkB T d_put_for.N d_put_for.body (defScope d_put_for.st) (defBody d_put_for.st) = true := by decide +kernel
theorem sc__law_draws : FnScope d__law_draws.N d__law_draws.ps (defScope d__law_draws.st) := ⟨rfl, rfl, rfl, by decide +kernel, rfl, by decide +kernel, by decide +kernel⟩
theorem ck__law_draws : chkB T d__law_draws.N d__law_draws.body (defScope d__law_draws.st) (defBody d__law_draws.st) = true := by decide +kernel
theorem sc__law_take : FnScope d__law_take.N d__law_take.ps (defScope d__law_take.st) := ⟨rfl, rfl, rfl, by decide +kernel, rfl, by decide +kernel, by decide +kernel⟩
theorem ck__law_take : chkB T d__law_take.N d__law_take.body (defScope d__law_take.st) (defBody d__law_take.st) = true := by decide +kernel
theorem sc__law_same : FnScope d__law_same.N d__law_same.ps (defScope d__law_same.st) := ⟨rfl, rfl, rfl, by decide +kernel, rfl, by decide +kernel, by decide +kernel⟩
theorem ck__law_same : chkB T d__law_same.N d__law_same.body (defScope d__law_same.st) (defBody d__law_same.st) = true := by decide +kernel
theorem sc__law_order : FnScope d__law_order.N d__law_order.ps (defScope d__law_order.st) := ⟨rfl, rfl, rfl, by decide +kernel, rfl, by decide +kernel, by decide +kernel⟩
theorem ck__law_order : chkB T d__law_order.N d__law_order.body (defScope d__law_order.st) (defBody d__law_order.st) = true := by decide +kernel
theorem sc__law_shuffled : FnScope d__law_shuffled.N d__law_shuffled.ps (defScope d__law_shuffled.st) := ⟨rfl, rfl, rfl, by decide +kernel, rfl, by decide +kernel, by decide +kernel⟩
theorem ck__law_shuffled : chkB T d__law_shuffled.N d__law_shuffled.body (defScope d__law_shuffled.st) (defBody d__law_shuffled.st) = true := by decide +kernel
theorem sc__law_signature : FnScope d__law_signature.N d__law_signature.ps (defScope d__law_signature.st) := ⟨rfl, rfl, rfl, by decide +kernel, rfl, by decide +kernel, by decide +kernel⟩
theorem ck__law_signature : chkB T d__law_signature.N d__law_signature.body (defScope d__law_signature.st) (defBody d__law_signature.st) = true := by decide +kernel
theorem sc__law_pick : FnScope d__law_pick.N d__law_pick.ps (defScope d__law_pick.st) := ⟨rfl, rfl, rfl, by decide +kernel, rfl, by decide +kernel, by decide +kernel⟩
theorem ck__law_pick : chkB T d__law_pick.N d__law_pick.body (defScope d__law_pick.st) (defBody d__law_pick.st) = true := by decide +kernel
theorem sc__law_inside : FnScope d__law_inside.N d__law_inside.ps (defScope d__law_inside.st) := ⟨rfl, rfl, rfl, by decide +kernel, rfl, by decide +kernel, by decide +kernel⟩
theorem ck__law_inside : chkB T d__law_inside.N d__law_inside.body (defScope d__law_inside.st) (defBody d__law_inside.st) = true := by decide +kernel
theorem sc__law_parts : FnScope d__law_parts.N d__law_parts.ps (defScope d__law_parts.st) := ⟨rfl, rfl, rfl, by decide +kernel, rfl, by decide +kernel, by decide +kernel⟩
theorem ck__law_parts : chkB T d__law_parts.N d__law_parts.body (defScope d__law_parts.st) (defBody d__law_parts.st) = true := by decide +kernel
theorem sc__law_new : FnScope d__law_new.N d__law_new.ps (defScope d__law_new.st) := ⟨rfl, rfl, rfl, by decide +kernel, rfl, by decide +kernel, by decide +kernel⟩
theorem ck__law_new : chkB T d__law_new.N d__law_new.body (defScope d__law_new.st) (defBody d__law_new.st) = true := by decide +kernel
theorem sc__law_pool : FnScope d__law_pool.N d__law_pool.ps (defScope d__law_pool.st) := ⟨rfl, rfl, rfl, by decide +kernel, rfl, by decide +kernel, by decide +kernel⟩
theorem ck__law_pool : chkB T d__law_pool.N d__law_pool.body (defScope d__law_pool.st) (defBody d__law_pool.st) = true := by decide +kernel
theorem sc__law_fits : FnScope d__law_fits.N d__law_fits.ps (defScope d__law_fits.st) := ⟨rfl, rfl, rfl, by decide +kernel, rfl, by decide +kernel, by decide +kernel⟩
theorem ck__law_fits : chkB T d__law_fits.N d__law_fits.body (defScope d__law_fits.st) (defBody d__law_fits.st) = true := by decide +kernel
theorem sc__law_terms : FnScope d__law_terms.N d__law_terms.ps (defScope d__law_terms.st) := ⟨rfl, rfl, rfl, by decide +kernel, rfl, by decide +kernel, by decide +kernel⟩
theorem ck__law_terms : chkB T d__law_terms.N d__law_terms.body (defScope d__law_terms.st) (defBody d__law_terms.st) = true := by decide +kernel
theorem sc__law_unlike : FnScope d__law_unlike.N d__law_unlike.ps (defScope d__law_unlike.st) := ⟨rfl, rfl, rfl, by decide +kernel, rfl, by decide +kernel, by decide +kernel⟩
theorem ck__law_unlike : chkB T d__law_unlike.N d__law_unlike.body (defScope d__law_unlike.st) (defBody d__law_unlike.st) = true := by decide +kernel
theorem sc__law_put_in : FnScope d__law_put_in.N d__law_put_in.ps (defScope d__law_put_in.st) := ⟨rfl, rfl, rfl, by decide +kernel, rfl, by decide +kernel, by decide +kernel⟩
theorem ck__law_put_in : chkB T d__law_put_in.N d__law_put_in.body (defScope d__law_put_in.st) (defBody d__law_put_in.st) = true := by decide +kernel
theorem sc__law_is_term_right : FnScope d__law_is_term_right.N d__law_is_term_right.ps (defScope d__law_is_term_right.st) := ⟨rfl, rfl, rfl, by decide +kernel, rfl, by decide +kernel, by decide +kernel⟩
theorem ck__law_is_term_right : chkB T d__law_is_term_right.N d__law_is_term_right.body (defScope d__law_is_term_right.st) (defBody d__law_is_term_right.st) = true := by decide +kernel
theorem sc_law : FnScope d_law.N d_law.ps (defScope d_law.st) := ⟨rfl, rfl, rfl, by decide +kernel, rfl, by decide +kernel, by decide +kernel⟩
theorem ck_law : chkB T d_law.N d_law.body (defScope d_law.st) (defBody d_law.st) = true := by decide +kernel
theorem txts : Txts T F := by
  refine ⟨rfl, fun c h => ?_, fun c h => ?_⟩
  · simp only [F, List.mem_cons, List.not_mem_nil, or_false] at h
    rcases h with rfl | rfl | rfl | rfl | rfl | rfl | rfl | rfl | rfl | rfl | rfl | rfl | rfl | rfl | rfl | rfl | rfl | rfl | rfl | rfl | rfl | rfl | rfl | rfl | rfl | rfl
    · exact sc_terms_in
    · exact sc_with_terms
    · exact sc_parts_of
    · exact sc_key_of
    · exact sc_unlike_parts
    · exact sc_size_of
    · exact sc_depth_of
    · exact sc_names_in
    · exact sc_put_for
    · exact sc__law_draws
    · exact sc__law_take
    · exact sc__law_same
    · exact sc__law_order
    · exact sc__law_shuffled
    · exact sc__law_signature
    · exact sc__law_pick
    · exact sc__law_inside
    · exact sc__law_parts
    · exact sc__law_new
    · exact sc__law_pool
    · exact sc__law_fits
    · exact sc__law_terms
    · exact sc__law_unlike
    · exact sc__law_put_in
    · exact sc__law_is_term_right
    · exact sc_law
  · simp only [F, List.mem_cons, List.not_mem_nil, or_false] at h
    rcases h with rfl | rfl | rfl | rfl | rfl | rfl | rfl | rfl | rfl | rfl | rfl | rfl | rfl | rfl | rfl | rfl | rfl | rfl | rfl | rfl | rfl | rfl | rfl | rfl | rfl | rfl
    · exact ck_terms_in
    · exact ck_with_terms
    · exact ck_parts_of
    · exact ck_key_of
    · exact ck_unlike_parts
    · exact ck_size_of
    · exact ck_depth_of
    · exact ck_names_in
    · exact ck_put_for
    · exact ck__law_draws
    · exact ck__law_take
    · exact ck__law_same
    · exact ck__law_order
    · exact ck__law_shuffled
    · exact ck__law_signature
    · exact ck__law_pick
    · exact ck__law_inside
    · exact ck__law_parts
    · exact ck__law_new
    · exact ck__law_pool
    · exact ck__law_fits
    · exact ck__law_terms
    · exact ck__law_unlike
    · exact ck__law_put_in
    · exact ck__law_is_term_right
    · exact ck_law
/-! ### the top -/
theorem all_mk {l : PySem.W.OpenLaw} {w : World} {K : PySem.W.Frag} {h : Heap} {mg : Str → Option Value} {fa : Addr} (X : K.In h) (G : h.Ns mainGlobals mg) (hfa : mg "law" = some (.ref fa))
    {f0 : Addr} {od0 an0 : Option Addr} {sl0 : Array (Option Value)} {oc0 kV0 dc0 pm0 cd0 ct0 : Value}
    (a0 : PySem.W.nsIn K mainGlobals "terms_in" = some (some (.ref f0))) (l0 : K.lookup f0 = some ⟨oc0, od0, .func (PySem.W.fnOf "terms_in" "terms_in" (defArgs d_terms_in.st) (defBody d_terms_in.st) (defScope d_terms_in.st) .none kV0 dc0 pm0 an0 cd0 ct0), sl0⟩) (c0 : PySem.W.codeIn K cd0 "terms_in" = true) (k0 : PySem.W.keepIn K (.ref f0) = true)
    {f1 : Addr} {od1 an1 : Option Addr} {sl1 : Array (Option Value)} {oc1 kV1 dc1 pm1 cd1 ct1 : Value}
    (a1 : PySem.W.nsIn K mainGlobals "with_terms" = some (some (.ref f1))) (l1 : K.lookup f1 = some ⟨oc1, od1, .func (PySem.W.fnOf "with_terms" "with_terms" (defArgs d_with_terms.st) (defBody d_with_terms.st) (defScope d_with_terms.st) .none kV1 dc1 pm1 an1 cd1 ct1), sl1⟩) (c1 : PySem.W.codeIn K cd1 "with_terms" = true) (k1 : PySem.W.keepIn K (.ref f1) = true)
    {f2 : Addr} {od2 an2 : Option Addr} {sl2 : Array (Option Value)} {oc2 kV2 dc2 pm2 cd2 ct2 : Value}
    (a2 : PySem.W.nsIn K mainGlobals "parts_of" = some (some (.ref f2))) (l2 : K.lookup f2 = some ⟨oc2, od2, .func (PySem.W.fnOf "parts_of" "parts_of" (defArgs d_parts_of.st) (defBody d_parts_of.st) (defScope d_parts_of.st) .none kV2 dc2 pm2 an2 cd2 ct2), sl2⟩) (c2 : PySem.W.codeIn K cd2 "parts_of" = true) (k2 : PySem.W.keepIn K (.ref f2) = true)
    {f3 : Addr} {od3 an3 : Option Addr} {sl3 : Array (Option Value)} {oc3 kV3 dc3 pm3 cd3 ct3 : Value}
    (a3 : PySem.W.nsIn K mainGlobals "key_of" = some (some (.ref f3))) (l3 : K.lookup f3 = some ⟨oc3, od3, .func (PySem.W.fnOf "key_of" "key_of" (defArgs d_key_of.st) (defBody d_key_of.st) (defScope d_key_of.st) .none kV3 dc3 pm3 an3 cd3 ct3), sl3⟩) (c3 : PySem.W.codeIn K cd3 "key_of" = true) (k3 : PySem.W.keepIn K (.ref f3) = true)
    {f4 : Addr} {od4 an4 : Option Addr} {sl4 : Array (Option Value)} {oc4 kV4 dc4 pm4 cd4 ct4 : Value}
    (a4 : PySem.W.nsIn K mainGlobals "unlike_parts" = some (some (.ref f4))) (l4 : K.lookup f4 = some ⟨oc4, od4, .func (PySem.W.fnOf "unlike_parts" "unlike_parts" (defArgs d_unlike_parts.st) (defBody d_unlike_parts.st) (defScope d_unlike_parts.st) .none kV4 dc4 pm4 an4 cd4 ct4), sl4⟩) (c4 : PySem.W.codeIn K cd4 "unlike_parts" = true) (k4 : PySem.W.keepIn K (.ref f4) = true)
    {f5 : Addr} {od5 an5 : Option Addr} {sl5 : Array (Option Value)} {oc5 kV5 dc5 pm5 cd5 ct5 : Value}
    (a5 : PySem.W.nsIn K mainGlobals "size_of" = some (some (.ref f5))) (l5 : K.lookup f5 = some ⟨oc5, od5, .func (PySem.W.fnOf "size_of" "size_of" (defArgs d_size_of.st) (defBody d_size_of.st) (defScope d_size_of.st) .none kV5 dc5 pm5 an5 cd5 ct5), sl5⟩) (c5 : PySem.W.codeIn K cd5 "size_of" = true) (k5 : PySem.W.keepIn K (.ref f5) = true)
    {f6 : Addr} {od6 an6 : Option Addr} {sl6 : Array (Option Value)} {oc6 kV6 dc6 pm6 cd6 ct6 : Value}
    (a6 : PySem.W.nsIn K mainGlobals "depth_of" = some (some (.ref f6))) (l6 : K.lookup f6 = some ⟨oc6, od6, .func (PySem.W.fnOf "depth_of" "depth_of" (defArgs d_depth_of.st) (defBody d_depth_of.st) (defScope d_depth_of.st) .none kV6 dc6 pm6 an6 cd6 ct6), sl6⟩) (c6 : PySem.W.codeIn K cd6 "depth_of" = true) (k6 : PySem.W.keepIn K (.ref f6) = true)
    {f7 : Addr} {od7 an7 : Option Addr} {sl7 : Array (Option Value)} {oc7 kV7 dc7 pm7 cd7 ct7 : Value}
    (a7 : PySem.W.nsIn K mainGlobals "names_in" = some (some (.ref f7))) (l7 : K.lookup f7 = some ⟨oc7, od7, .func (PySem.W.fnOf "names_in" "names_in" (defArgs d_names_in.st) (defBody d_names_in.st) (defScope d_names_in.st) .none kV7 dc7 pm7 an7 cd7 ct7), sl7⟩) (c7 : PySem.W.codeIn K cd7 "names_in" = true) (k7 : PySem.W.keepIn K (.ref f7) = true)
    {f8 : Addr} {od8 an8 : Option Addr} {sl8 : Array (Option Value)} {oc8 kV8 dc8 pm8 cd8 ct8 : Value}
    (a8 : PySem.W.nsIn K mainGlobals "put_for" = some (some (.ref f8))) (l8 : K.lookup f8 = some ⟨oc8, od8, .func (PySem.W.fnOf "put_for" "put_for" (defArgs d_put_for.st) (defBody d_put_for.st) (defScope d_put_for.st) .none kV8 dc8 pm8 an8 cd8 ct8), sl8⟩) (c8 : PySem.W.codeIn K cd8 "put_for" = true) (k8 : PySem.W.keepIn K (.ref f8) = true)
    {f9 : Addr} {od9 an9 : Option Addr} {sl9 : Array (Option Value)} {oc9 kV9 dc9 pm9 cd9 ct9 : Value}
    (a9 : PySem.W.nsIn K mainGlobals "_law_draws" = some (some (.ref f9))) (l9 : K.lookup f9 = some ⟨oc9, od9, .func (PySem.W.fnOf "_law_draws" "_law_draws" (defArgs d__law_draws.st) (defBody d__law_draws.st) (defScope d__law_draws.st) .none kV9 dc9 pm9 an9 cd9 ct9), sl9⟩) (c9 : PySem.W.codeIn K cd9 "_law_draws" = true) (k9 : PySem.W.keepIn K (.ref f9) = true)
    {f10 : Addr} {od10 an10 : Option Addr} {sl10 : Array (Option Value)} {oc10 kV10 dc10 pm10 cd10 ct10 : Value}
    (a10 : PySem.W.nsIn K mainGlobals "_law_take" = some (some (.ref f10))) (l10 : K.lookup f10 = some ⟨oc10, od10, .func (PySem.W.fnOf "_law_take" "_law_take" (defArgs d__law_take.st) (defBody d__law_take.st) (defScope d__law_take.st) .none kV10 dc10 pm10 an10 cd10 ct10), sl10⟩) (c10 : PySem.W.codeIn K cd10 "_law_take" = true) (k10 : PySem.W.keepIn K (.ref f10) = true)
    {f11 : Addr} {od11 an11 : Option Addr} {sl11 : Array (Option Value)} {oc11 kV11 dc11 pm11 cd11 ct11 : Value}
    (a11 : PySem.W.nsIn K mainGlobals "_law_same" = some (some (.ref f11))) (l11 : K.lookup f11 = some ⟨oc11, od11, .func (PySem.W.fnOf "_law_same" "_law_same" (defArgs d__law_same.st) (defBody d__law_same.st) (defScope d__law_same.st) .none kV11 dc11 pm11 an11 cd11 ct11), sl11⟩) (c11 : PySem.W.codeIn K cd11 "_law_same" = true) (k11 : PySem.W.keepIn K (.ref f11) = true)
    {f12 : Addr} {od12 an12 : Option Addr} {sl12 : Array (Option Value)} {oc12 kV12 dc12 pm12 cd12 ct12 : Value}
    (a12 : PySem.W.nsIn K mainGlobals "_law_order" = some (some (.ref f12))) (l12 : K.lookup f12 = some ⟨oc12, od12, .func (PySem.W.fnOf "_law_order" "_law_order" (defArgs d__law_order.st) (defBody d__law_order.st) (defScope d__law_order.st) .none kV12 dc12 pm12 an12 cd12 ct12), sl12⟩) (c12 : PySem.W.codeIn K cd12 "_law_order" = true) (k12 : PySem.W.keepIn K (.ref f12) = true)
    {f13 : Addr} {od13 an13 : Option Addr} {sl13 : Array (Option Value)} {oc13 kV13 dc13 pm13 cd13 ct13 : Value}
    (a13 : PySem.W.nsIn K mainGlobals "_law_shuffled" = some (some (.ref f13))) (l13 : K.lookup f13 = some ⟨oc13, od13, .func (PySem.W.fnOf "_law_shuffled" "_law_shuffled" (defArgs d__law_shuffled.st) (defBody d__law_shuffled.st) (defScope d__law_shuffled.st) .none kV13 dc13 pm13 an13 cd13 ct13), sl13⟩) (c13 : PySem.W.codeIn K cd13 "_law_shuffled" = true) (k13 : PySem.W.keepIn K (.ref f13) = true)
    {f14 : Addr} {od14 an14 : Option Addr} {sl14 : Array (Option Value)} {oc14 kV14 dc14 pm14 cd14 ct14 : Value}
    (a14 : PySem.W.nsIn K mainGlobals "_law_signature" = some (some (.ref f14))) (l14 : K.lookup f14 = some ⟨oc14, od14, .func (PySem.W.fnOf "_law_signature" "_law_signature" (defArgs d__law_signature.st) (defBody d__law_signature.st) (defScope d__law_signature.st) .none kV14 dc14 pm14 an14 cd14 ct14), sl14⟩) (c14 : PySem.W.codeIn K cd14 "_law_signature" = true) (k14 : PySem.W.keepIn K (.ref f14) = true)
    {f15 : Addr} {od15 an15 : Option Addr} {sl15 : Array (Option Value)} {oc15 kV15 dc15 pm15 cd15 ct15 : Value}
    (a15 : PySem.W.nsIn K mainGlobals "_law_pick" = some (some (.ref f15))) (l15 : K.lookup f15 = some ⟨oc15, od15, .func (PySem.W.fnOf "_law_pick" "_law_pick" (defArgs d__law_pick.st) (defBody d__law_pick.st) (defScope d__law_pick.st) .none kV15 dc15 pm15 an15 cd15 ct15), sl15⟩) (c15 : PySem.W.codeIn K cd15 "_law_pick" = true) (k15 : PySem.W.keepIn K (.ref f15) = true)
    {f16 : Addr} {od16 an16 : Option Addr} {sl16 : Array (Option Value)} {oc16 kV16 dc16 pm16 cd16 ct16 : Value}
    (a16 : PySem.W.nsIn K mainGlobals "_law_inside" = some (some (.ref f16))) (l16 : K.lookup f16 = some ⟨oc16, od16, .func (PySem.W.fnOf "_law_inside" "_law_inside" (defArgs d__law_inside.st) (defBody d__law_inside.st) (defScope d__law_inside.st) .none kV16 dc16 pm16 an16 cd16 ct16), sl16⟩) (c16 : PySem.W.codeIn K cd16 "_law_inside" = true) (k16 : PySem.W.keepIn K (.ref f16) = true)
    {f17 : Addr} {od17 an17 : Option Addr} {sl17 : Array (Option Value)} {oc17 kV17 dc17 pm17 cd17 ct17 : Value}
    (a17 : PySem.W.nsIn K mainGlobals "_law_parts" = some (some (.ref f17))) (l17 : K.lookup f17 = some ⟨oc17, od17, .func (PySem.W.fnOf "_law_parts" "_law_parts" (defArgs d__law_parts.st) (defBody d__law_parts.st) (defScope d__law_parts.st) .none kV17 dc17 pm17 an17 cd17 ct17), sl17⟩) (c17 : PySem.W.codeIn K cd17 "_law_parts" = true) (k17 : PySem.W.keepIn K (.ref f17) = true)
    {f18 : Addr} {od18 an18 : Option Addr} {sl18 : Array (Option Value)} {oc18 kV18 dc18 pm18 cd18 ct18 : Value}
    (a18 : PySem.W.nsIn K mainGlobals "_law_new" = some (some (.ref f18))) (l18 : K.lookup f18 = some ⟨oc18, od18, .func (PySem.W.fnOf "_law_new" "_law_new" (defArgs d__law_new.st) (defBody d__law_new.st) (defScope d__law_new.st) .none kV18 dc18 pm18 an18 cd18 ct18), sl18⟩) (c18 : PySem.W.codeIn K cd18 "_law_new" = true) (k18 : PySem.W.keepIn K (.ref f18) = true)
    {f19 : Addr} {od19 an19 : Option Addr} {sl19 : Array (Option Value)} {oc19 kV19 dc19 pm19 cd19 ct19 : Value}
    (a19 : PySem.W.nsIn K mainGlobals "_law_pool" = some (some (.ref f19))) (l19 : K.lookup f19 = some ⟨oc19, od19, .func (PySem.W.fnOf "_law_pool" "_law_pool" (defArgs d__law_pool.st) (defBody d__law_pool.st) (defScope d__law_pool.st) .none kV19 dc19 pm19 an19 cd19 ct19), sl19⟩) (c19 : PySem.W.codeIn K cd19 "_law_pool" = true) (k19 : PySem.W.keepIn K (.ref f19) = true)
    {f20 : Addr} {od20 an20 : Option Addr} {sl20 : Array (Option Value)} {oc20 kV20 dc20 pm20 cd20 ct20 : Value}
    (a20 : PySem.W.nsIn K mainGlobals "_law_fits" = some (some (.ref f20))) (l20 : K.lookup f20 = some ⟨oc20, od20, .func (PySem.W.fnOf "_law_fits" "_law_fits" (defArgs d__law_fits.st) (defBody d__law_fits.st) (defScope d__law_fits.st) .none kV20 dc20 pm20 an20 cd20 ct20), sl20⟩) (c20 : PySem.W.codeIn K cd20 "_law_fits" = true) (k20 : PySem.W.keepIn K (.ref f20) = true)
    {f21 : Addr} {od21 an21 : Option Addr} {sl21 : Array (Option Value)} {oc21 kV21 dc21 pm21 cd21 ct21 : Value}
    (a21 : PySem.W.nsIn K mainGlobals "_law_terms" = some (some (.ref f21))) (l21 : K.lookup f21 = some ⟨oc21, od21, .func (PySem.W.fnOf "_law_terms" "_law_terms" (defArgs d__law_terms.st) (defBody d__law_terms.st) (defScope d__law_terms.st) .none kV21 dc21 pm21 an21 cd21 ct21), sl21⟩) (c21 : PySem.W.codeIn K cd21 "_law_terms" = true) (k21 : PySem.W.keepIn K (.ref f21) = true)
    {f22 : Addr} {od22 an22 : Option Addr} {sl22 : Array (Option Value)} {oc22 kV22 dc22 pm22 cd22 ct22 : Value}
    (a22 : PySem.W.nsIn K mainGlobals "_law_unlike" = some (some (.ref f22))) (l22 : K.lookup f22 = some ⟨oc22, od22, .func (PySem.W.fnOf "_law_unlike" "_law_unlike" (defArgs d__law_unlike.st) (defBody d__law_unlike.st) (defScope d__law_unlike.st) .none kV22 dc22 pm22 an22 cd22 ct22), sl22⟩) (c22 : PySem.W.codeIn K cd22 "_law_unlike" = true) (k22 : PySem.W.keepIn K (.ref f22) = true)
    {f23 : Addr} {od23 an23 : Option Addr} {sl23 : Array (Option Value)} {oc23 kV23 dc23 pm23 cd23 ct23 : Value}
    (a23 : PySem.W.nsIn K mainGlobals "_law_put_in" = some (some (.ref f23))) (l23 : K.lookup f23 = some ⟨oc23, od23, .func (PySem.W.fnOf "_law_put_in" "_law_put_in" (defArgs d__law_put_in.st) (defBody d__law_put_in.st) (defScope d__law_put_in.st) .none kV23 dc23 pm23 an23 cd23 ct23), sl23⟩) (c23 : PySem.W.codeIn K cd23 "_law_put_in" = true) (k23 : PySem.W.keepIn K (.ref f23) = true)
    {f24 : Addr} {od24 an24 : Option Addr} {sl24 : Array (Option Value)} {oc24 kV24 dc24 pm24 cd24 ct24 : Value}
    (a24 : PySem.W.nsIn K mainGlobals "_law_is_term_right" = some (some (.ref f24))) (l24 : K.lookup f24 = some ⟨oc24, od24, .func (PySem.W.fnOf "_law_is_term_right" "_law_is_term_right" (defArgs d__law_is_term_right.st) (defBody d__law_is_term_right.st) (defScope d__law_is_term_right.st) .none kV24 dc24 pm24 an24 cd24 ct24), sl24⟩) (c24 : PySem.W.codeIn K cd24 "_law_is_term_right" = true) (k24 : PySem.W.keepIn K (.ref f24) = true)
    {f25 : Addr} {od25 an25 : Option Addr} {sl25 : Array (Option Value)} {oc25 kV25 dc25 pm25 cd25 ct25 : Value}
    (a25 : PySem.W.nsIn K mainGlobals "law" = some (some (.ref f25))) (l25 : K.lookup f25 = some ⟨oc25, od25, .func (PySem.W.fnOf "law" "law" (defArgs d_law.st) (defBody d_law.st) (defScope d_law.st) .none kV25 dc25 pm25 an25 cd25 ct25), sl25⟩) (c25 : PySem.W.codeIn K cd25 "law" = true) (k25 : PySem.W.keepIn K (.ref f25) = true)
    (z0 : PySem.W.nsIn K mainGlobals "tuple" = some none)
    (z1 : PySem.W.nsIn K mainGlobals "range" = some none)
    (z2 : PySem.W.nsIn K mainGlobals "len" = some none)
    (z3 : PySem.W.nsIn K mainGlobals "list" = some none)
    (z4 : PySem.W.nsIn K mainGlobals "repr" = some none)
    (z5 : PySem.W.nsIn K mainGlobals "sorted" = some none)
    (z6 : PySem.W.nsIn K mainGlobals "set" = some none)
    (z7 : PySem.W.nsIn K mainGlobals "int" = some none)
    (z8 : PySem.W.nsIn K mainGlobals "isinstance" = some none)
    (z9 : PySem.W.nsIn K mainGlobals "bool" = some none)
    (z10 : PySem.W.nsIn K mainGlobals "str" = some none)
    (z11 : PySem.W.nsIn K mainGlobals "min" = some none)
    (z12 : PySem.W.nsIn K mainGlobals "max" = some none)
    (z13 : PySem.W.nsIn K mainGlobals "sum" = some none)
    : ∃ (fd : FuncData) (cls : Nat → Value), (∀ (s : Shared) (v : Value), BindsTo s fd ⟨[v], []⟩ [("script", v)]) ∧ ∀ base : Heap, K.In base → base.Ns mainGlobals mg → FnG l.prog w K mg base 100 fa fd ["script"] (spD cls K (wpCall gl F 100) 25) := by
  have e := hfa.symm.trans (PySem.W.mg_of X G a25)
  cases e
  have F0 := fun_mk (st := d_terms_in.st) l0 c0 k0
  have b0 := F0.binds (ps := d_terms_in.ps) fun _ _ _ _ _ _ us hl => match us, hl with | [_], _ => rfl
  have F1 := fun_mk (st := d_with_terms.st) l1 c1 k1
  have b1 := F1.binds (ps := d_with_terms.ps) fun _ _ _ _ _ _ us hl => match us, hl with | [_, _], _ => rfl
  have F2 := fun_mk (st := d_parts_of.st) l2 c2 k2
  have b2 := F2.binds (ps := d_parts_of.ps) fun _ _ _ _ _ _ us hl => match us, hl with | [_], _ => rfl
  have F3 := fun_mk (st := d_key_of.st) l3 c3 k3
  have b3 := F3.binds (ps := d_key_of.ps) fun _ _ _ _ _ _ us hl => match us, hl with | [_], _ => rfl
  have F4 := fun_mk (st := d_unlike_parts.st) l4 c4 k4
  have b4 := F4.binds (ps := d_unlike_parts.ps) fun _ _ _ _ _ _ us hl => match us, hl with | [_], _ => rfl
  have F5 := fun_mk (st := d_size_of.st) l5 c5 k5
  have b5 := F5.binds (ps := d_size_of.ps) fun _ _ _ _ _ _ us hl => match us, hl with | [_], _ => rfl
  have F6 := fun_mk (st := d_depth_of.st) l6 c6 k6
  have b6 := F6.binds (ps := d_depth_of.ps) fun _ _ _ _ _ _ us hl => match us, hl with | [_], _ => rfl
  have F7 := fun_mk (st := d_names_in.st) l7 c7 k7
  have b7 := F7.binds (ps := d_names_in.ps) fun _ _ _ _ _ _ us hl => match us, hl with | [_], _ => rfl
  have F8 := fun_mk (st := d_put_for.st) l8 c8 k8
  have b8 := F8.binds (ps := d_put_for.ps) fun _ _ _ _ _ _ us hl => match us, hl with | [_, _, _], _ => rfl
  have F9 := fun_mk (st := d__law_draws.st) l9 c9 k9
  have b9 := F9.binds (ps := d__law_draws.ps) fun _ _ _ _ _ _ us hl => match us, hl with | [_, _], _ => rfl
  have F10 := fun_mk (st := d__law_take.st) l10 c10 k10
  have b10 := F10.binds (ps := d__law_take.ps) fun _ _ _ _ _ _ us hl => match us, hl with | [_, _], _ => rfl
  have F11 := fun_mk (st := d__law_same.st) l11 c11 k11
  have b11 := F11.binds (ps := d__law_same.ps) fun _ _ _ _ _ _ us hl => match us, hl with | [_, _], _ => rfl
  have F12 := fun_mk (st := d__law_order.st) l12 c12 k12
  have b12 := F12.binds (ps := d__law_order.ps) fun _ _ _ _ _ _ us hl => match us, hl with | [_, _], _ => rfl
  have F13 := fun_mk (st := d__law_shuffled.st) l13 c13 k13
  have b13 := F13.binds (ps := d__law_shuffled.ps) fun _ _ _ _ _ _ us hl => match us, hl with | [_, _], _ => rfl
  have F14 := fun_mk (st := d__law_signature.st) l14 c14 k14
  have b14 := F14.binds (ps := d__law_signature.ps) fun _ _ _ _ _ _ us hl => match us, hl with | [_], _ => rfl
  have F15 := fun_mk (st := d__law_pick.st) l15 c15 k15
  have b15 := F15.binds (ps := d__law_pick.ps) fun _ _ _ _ _ _ us hl => match us, hl with | [_, _], _ => rfl
  have F16 := fun_mk (st := d__law_inside.st) l16 c16 k16
  have b16 := F16.binds (ps := d__law_inside.ps) fun _ _ _ _ _ _ us hl => match us, hl with | [_], _ => rfl
  have F17 := fun_mk (st := d__law_parts.st) l17 c17 k17
  have b17 := F17.binds (ps := d__law_parts.ps) fun _ _ _ _ _ _ us hl => match us, hl with | [_], _ => rfl
  have F18 := fun_mk (st := d__law_new.st) l18 c18 k18
  have b18 := F18.binds (ps := d__law_new.ps) fun _ _ _ _ _ _ us hl => match us, hl with | [_, _, _], _ => rfl
  have F19 := fun_mk (st := d__law_pool.st) l19 c19 k19
  have b19 := F19.binds (ps := d__law_pool.ps) fun _ _ _ _ _ _ us hl => match us, hl with | [_, _, _], _ => rfl
  have F20 := fun_mk (st := d__law_fits.st) l20 c20 k20
  have b20 := F20.binds (ps := d__law_fits.ps) fun _ _ _ _ _ _ us hl => match us, hl with | [_], _ => rfl
  have F21 := fun_mk (st := d__law_terms.st) l21 c21 k21
  have b21 := F21.binds (ps := d__law_terms.ps) fun _ _ _ _ _ _ us hl => match us, hl with | [_, _, _, _, _], _ => rfl
  have F22 := fun_mk (st := d__law_unlike.st) l22 c22 k22
  have b22 := F22.binds (ps := d__law_unlike.ps) fun _ _ _ _ _ _ us hl => match us, hl with | [_], _ => rfl
  have F23 := fun_mk (st := d__law_put_in.st) l23 c23 k23
  have b23 := F23.binds (ps := d__law_put_in.ps) fun _ _ _ _ _ _ us hl => match us, hl with | [_, _, _], _ => rfl
  have F24 := fun_mk (st := d__law_is_term_right.st) l24 c24 k24
  have b24 := F24.binds (ps := d__law_is_term_right.ps) fun _ _ _ _ _ _ us hl => match us, hl with | [_, _, _], _ => rfl
  have F25 := fun_mk (st := d_law.st) l25 c25 k25
  have b25 := F25.binds (ps := d_law.ps) fun _ _ _ _ _ _ us hl => match us, hl with | [_], _ => rfl
  have tp : Top T F (fun c => ([] : List Value).getD c .none) K mg := by
    refine ⟨fun x hx => ?_, fun x id hx => ?_, fun x d hx => ?_, fun c h => ?_, fun c x hx => ?_, fun c k b hx => ?_, fun c x b hx => ?_⟩
    · simp only [T, List.mem_cons, List.not_mem_nil, or_false] at hx
      rcases hx with rfl | rfl | rfl | rfl | rfl | rfl | rfl | rfl | rfl | rfl | rfl | rfl | rfl | rfl
      · exact PySem.W.mg_none_of X G z0
      · exact PySem.W.mg_none_of X G z1
      · exact PySem.W.mg_none_of X G z2
      · exact PySem.W.mg_none_of X G z3
      · exact PySem.W.mg_none_of X G z4
      · exact PySem.W.mg_none_of X G z5
      · exact PySem.W.mg_none_of X G z6
      · exact PySem.W.mg_none_of X G z7
      · exact PySem.W.mg_none_of X G z8
      · exact PySem.W.mg_none_of X G z9
      · exact PySem.W.mg_none_of X G z10
      · exact PySem.W.mg_none_of X G z11
      · exact PySem.W.mg_none_of X G z12
      · exact PySem.W.mg_none_of X G z13
    · simp only [T] at hx
      cases hx
    · simp only [T, gl, List.not_mem_nil] at hx
    · simp only [F, List.mem_cons, List.not_mem_nil, or_false] at h
      rcases h with rfl | rfl | rfl | rfl | rfl | rfl | rfl | rfl | rfl | rfl | rfl | rfl | rfl | rfl | rfl | rfl | rfl | rfl | rfl | rfl | rfl | rfl | rfl | rfl | rfl | rfl
      · exact ⟨_, _, F0, PySem.W.mg_of X G a0, b0⟩
      · exact ⟨_, _, F1, PySem.W.mg_of X G a1, b1⟩
      · exact ⟨_, _, F2, PySem.W.mg_of X G a2, b2⟩
      · exact ⟨_, _, F3, PySem.W.mg_of X G a3, b3⟩
      · exact ⟨_, _, F4, PySem.W.mg_of X G a4, b4⟩
      · exact ⟨_, _, F5, PySem.W.mg_of X G a5, b5⟩
      · exact ⟨_, _, F6, PySem.W.mg_of X G a6, b6⟩
      · exact ⟨_, _, F7, PySem.W.mg_of X G a7, b7⟩
      · exact ⟨_, _, F8, PySem.W.mg_of X G a8, b8⟩
      · exact ⟨_, _, F9, PySem.W.mg_of X G a9, b9⟩
      · exact ⟨_, _, F10, PySem.W.mg_of X G a10, b10⟩
      · exact ⟨_, _, F11, PySem.W.mg_of X G a11, b11⟩
      · exact ⟨_, _, F12, PySem.W.mg_of X G a12, b12⟩
      · exact ⟨_, _, F13, PySem.W.mg_of X G a13, b13⟩
      · exact ⟨_, _, F14, PySem.W.mg_of X G a14, b14⟩
      · exact ⟨_, _, F15, PySem.W.mg_of X G a15, b15⟩
      · exact ⟨_, _, F16, PySem.W.mg_of X G a16, b16⟩
      · exact ⟨_, _, F17, PySem.W.mg_of X G a17, b17⟩
      · exact ⟨_, _, F18, PySem.W.mg_of X G a18, b18⟩
      · exact ⟨_, _, F19, PySem.W.mg_of X G a19, b19⟩
      · exact ⟨_, _, F20, PySem.W.mg_of X G a20, b20⟩
      · exact ⟨_, _, F21, PySem.W.mg_of X G a21, b21⟩
      · exact ⟨_, _, F22, PySem.W.mg_of X G a22, b22⟩
      · exact ⟨_, _, F23, PySem.W.mg_of X G a23, b23⟩
      · exact ⟨_, _, F24, PySem.W.mg_of X G a24, b24⟩
      · exact ⟨_, _, F25, PySem.W.mg_of X G a25, b25⟩
    · simp [T] at hx
    · simp [T] at hx
    · simp [T] at hx
  exact ⟨PySem.W.fnOf "law" "law" (defArgs d_law.st) (defBody d_law.st) (defScope d_law.st) .none kV25 dc25 pm25 an25 cd25 ct25, _, fun s v => .of_eq rfl, fun base _ _ => fns_ok txts tp 100 25 d_law _ _ rfl F25⟩
end K03
open PySem PySem.W PyProof.Rows
set_option maxHeartbeats 0 in
theorem PySem.Challenge.cw_sayswhy_k03_parts_of_terms_holds : PySem.Challenge.rw_sayswhy_k03_parts_of_terms.Holds := by
  w_on; o_law; k_head; (case hw => w_witness2)
  k_fill
  refine Py.walk_G (l := PySem.Challenge.rw_sayswhy_k03_parts_of_terms) (n := 63) (k := 100) (x := "script") rfl (by decide) rfl ⟨rfl, by decide, by decide⟩ (fun w h Y => PySem.W.kIn_of Y) ?F
  case F =>
    intro w mg fa h KX G hmg
    refine' (fun z => let ⟨fd, cls, hb, hF⟩ := z; ⟨fd, Py.spD cls _ (Py.wpCall K03.gl K03.F 100) 25, hb, fun H a ns hl hO hS => Py.law_sp hO hS (K03.law_ok ns hl), hF⟩) (K03.all_mk KX G hmg ?a0 ?l0 ?c0 ?k0 ?a1 ?l1 ?c1 ?k1 ?a2 ?l2 ?c2 ?k2 ?a3 ?l3 ?c3 ?k3 ?a4 ?l4 ?c4 ?k4 ?a5 ?l5 ?c5 ?k5 ?a6 ?l6 ?c6 ?k6 ?a7 ?l7 ?c7 ?k7 ?a8 ?l8 ?c8 ?k8 ?a9 ?l9 ?c9 ?k9 ?a10 ?l10 ?c10 ?k10 ?a11 ?l11 ?c11 ?k11 ?a12 ?l12 ?c12 ?k12 ?a13 ?l13 ?c13 ?k13 ?a14 ?l14 ?c14 ?k14 ?a15 ?l15 ?c15 ?k15 ?a16 ?l16 ?c16 ?k16 ?a17 ?l17 ?c17 ?k17 ?a18 ?l18 ?c18 ?k18 ?a19 ?l19 ?c19 ?k19 ?a20 ?l20 ?c20 ?k20 ?a21 ?l21 ?c21 ?k21 ?a22 ?l22 ?c22 ?k22 ?a23 ?l23 ?c23 ?k23 ?a24 ?l24 ?c24 ?k24 ?a25 ?l25 ?c25 ?k25 ?z0 ?z1 ?z2 ?z3 ?z4 ?z5 ?z6 ?z7 ?z8 ?z9 ?z10 ?z11 ?z12 ?z13)
    (case a0 => k_is); (case l0 => k_is); (case c0 => k_is); (case k0 => k_is); (case a1 => k_is); (case l1 => k_is); (case c1 => k_is); (case k1 => k_is); (case a2 => k_is); (case l2 => k_is); (case c2 => k_is); (case k2 => k_is); (case a3 => k_is); (case l3 => k_is); (case c3 => k_is); (case k3 => k_is); (case a4 => k_is); (case l4 => k_is); (case c4 => k_is); (case k4 => k_is); (case a5 => k_is); (case l5 => k_is); (case c5 => k_is); (case k5 => k_is); (case a6 => k_is); (case l6 => k_is); (case c6 => k_is); (case k6 => k_is); (case a7 => k_is); (case l7 => k_is); (case c7 => k_is); (case k7 => k_is); (case a8 => k_is); (case l8 => k_is); (case c8 => k_is); (case k8 => k_is); (case a9 => k_is); (case l9 => k_is); (case c9 => k_is); (case k9 => k_is); (case a10 => k_is); (case l10 => k_is); (case c10 => k_is); (case k10 => k_is); (case a11 => k_is); (case l11 => k_is); (case c11 => k_is); (case k11 => k_is); (case a12 => k_is); (case l12 => k_is); (case c12 => k_is); (case k12 => k_is); (case a13 => k_is); (case l13 => k_is); (case c13 => k_is); (case k13 => k_is); (case a14 => k_is); (case l14 => k_is); (case c14 => k_is); (case k14 => k_is); (case a15 => k_is); (case l15 => k_is); (case c15 => k_is); (case k15 => k_is); (case a16 => k_is); (case l16 => k_is); (case c16 => k_is); (case k16 => k_is); (case a17 => k_is); (case l17 => k_is); (case c17 => k_is); (case k17 => k_is); (case a18 => k_is); (case l18 => k_is); (case c18 => k_is); (case k18 => k_is); (case a19 => k_is); (case l19 => k_is); (case c19 => k_is); (case k19 => k_is); (case a20 => k_is); (case l20 => k_is); (case c20 => k_is); (case k20 => k_is); (case a21 => k_is); (case l21 => k_is); (case c21 => k_is); (case k21 => k_is); (case a22 => k_is); (case l22 => k_is); (case c22 => k_is); (case k22 => k_is); (case a23 => k_is); (case l23 => k_is); (case c23 => k_is); (case k23 => k_is); (case a24 => k_is); (case l24 => k_is); (case c24 => k_is); (case k24 => k_is); (case a25 => k_is); (case l25 => k_is); (case c25 => k_is); (case k25 => k_is); (case z0 => k_is); (case z1 => k_is); (case z2 => k_is); (case z3 => k_is); (case z4 => k_is); (case z5 => k_is); (case z6 => k_is); (case z7 => k_is); (case z8 => k_is); (case z9 => k_is); (case z10 => k_is); (case z11 => k_is); (case z12 => k_is); (case z13 => k_is)
