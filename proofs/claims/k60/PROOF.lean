import PyProof.Rows.All
import Wide.All
import OpenK.AllK
import Wide.FinOn
import HandS.ForMost
import HandS.Gcd
import HandS.Wide
import HandS.WideMore
import HandS.IsInst
import HandS.TupAny
import HandS.TupMul
import HandS.TupLe
import HandS.Conv
import HandS.Flow
import KE.KIndexOf
import HandS.Strs
import HandS.Text
import KE.DataEq
import HandS.Walk
import KE.KTupSum
import HandS.EndBits
import PyProof.Rows.SortShellAny
import KE.SortData
import KE.KDictZip
import HandS.Zip
import HandS.Property
import HandS.Star
import HandS.Style
import HandS.ExcIs
import HandS.RaiseFrom
import HandS.SuiteRaise
import HandS.WordsExc
import KE.GoesEnum
import HandS.TryOnly
import PyProof.Rows.MatchSeqLen
import PySem.Challenge.RW_toldotherwise_k60_sure_pasts
set_option Elab.async false
set_option linter.all false
set_option maxRecDepth 100000
set_option maxHeartbeats 2000000
/-! PL0: tuples laid with their object known (no dict of their own): the makers again, and the methods of a tuple. -/
namespace PL
open PySem PySem.Spec L2 PyProof.Rows

/-- a tuple whose object has no dict -/
def SqX (K : PySem.W.Frag) (H : Hp) (a : Addr) (vs : List V) : Prop :=
  (∃ ob, H a = some (.frz ob (.tup vs)) ∧ ob.dict = none) ∨
    ∃ (ob : Obj) (arr : Array Value) (c : Nat), K.lookup a = some ob ∧ ob.cls = .type "tuple" ∧ ob.dict = none ∧ ob.data = .seq arr c ∧ arr.size ≤ sizeLine ∧ Vals vs arr.toList
theorem SqX.t {K : PySem.W.Frag} {H : Hp} {a : Addr} {vs : List V} (h : SqX K H a vs) : SqT K H a vs := by
  rcases h with ⟨ob, e, _⟩ | ⟨ob, arr, c, e1, e2, _, e3⟩
  · exact .inl (.inr ⟨ob, e⟩)
  · exact .inr ⟨ob, arr, c, e1, e2, e3⟩
/-- the wish at a new tuple -/
abbrev NewT (H : Hp) (vs : List V) (Q : VK) : Prop := ∀ (p : Addr) (ob : Obj), H p = none → ob.dict = none → Q (.ref p) (upd H p (.frz ob (.tup vs)))
section
variable {X : Cx} {pins : List (Addr × Obj)} {σ : L2.St} {H : Hp} {s : Shared} {Q : VK}
theorem SqX.bare {a : Addr} {vs : List V} (I : Inv X pins σ H s) (h : SqX X.K H a vs) : s.TypeIs (.ref a) "tuple" ∧ ∀ b, Value.ref a = .ref b → ∃ ob, s.heap.get? b = some ob ∧ ob.dict = none := by
  refine ⟨?_, fun b eb => ?_⟩
  · obtain ⟨_, _, tup, _⟩ := I.tuple h.t
    exact tup.typeIs
  · cases eb
    rcases h with ⟨ob, e, hd⟩ | ⟨ob, _, _, e, _, hd, _⟩
    · exact ⟨ob, (I.hok a _ e).1, hd⟩
    · exact ⟨ob, I.kIn a ob e, hd⟩
theorem laid_tup {vs : List V} {us : List Value} (I : Inv X pins σ H s) (r : Vals vs us) (few : vs.length ≤ sizeLine) (q : NewT H vs Q) :
    EP X pins σ Q (.ref s.heap.objs.size) { s with heap := s.heap.push { cls := .type "tuple", data := .seq us.toArray } } :=
  have there := Heap.get?_push_size s.heap (o := { cls := .type "tuple", data := .seq us.toArray }) rfl
  ⟨.ref s.heap.objs.size, _, I.laid (t' := s.toks) (o := .frz { cls := .type "tuple", data := .seq us.toArray } (.tup vs)) (fun _ _ kept => Heap.get?_push_of_some _ kept) (Nat.le_refl _)
    ⟨there, few, us, r, IsTup.new _ _⟩, rfl, q _ _ (I.hok.fresh (Nat.le_refl _)) rfl⟩
end
section
variable {X : Cx} {es : List Expr} {e : Expr} {t : TA} {te : TE} {pos : Pos}
def xTup (t : TA) : TE := fun σ H Q => t σ H fun vs H1 => vs.length ≤ sizeLine ∧ NewT H1 vs Q
theorem pe_tupX {ctx} (h : PA X es t) : PE X (.Tuple es ctx pos) (xTup t) := by
  refine ⟨fun pins s σ H Q I want => ?_⟩
  refine wpAny_Tuple_spliced (thn (h.run pos pins s σ H _ I want) fun us s1 ⟨vs, H1, I1, rv, few, q⟩ => ?_)
  exact ⟨by rw [← rv.length]; exact few, laid_tup I1 rv few q⟩
theorem call_tupX : CallR X (.type "tuple") (fun as H Q => ∃ a vs, as = [.ref a] ∧ ((SqL X.K H a vs ∧ NewT H vs Q) ∨ (SqX X.K H a vs ∧ Q (.ref a) H))) := by
  intro pins s σ H as us Q I r want
  obtain ⟨a, vs, ea, want⟩ := want
  subst ea
  obtain ⟨u, eu, ru⟩ := vals1 r
  subst eu
  cases ru
  rcases want with ⟨there, q⟩ | ⟨there, q⟩
  · obtain ⟨its, rv, plain, few⟩ := I.list there
    have len := rv.length
    refine call_tuple_list plain.isList (fun h1 kp => ?_) (by simp only [List.size_toArray] <;> omega)
    exact laid_tup (I.kept (t' := s.toks) kp) rv few q
  · obtain ⟨its, rv, tup, few⟩ := I.tuple there.t
    exact call_tuple_same tup ⟨.ref a, H, I, rfl, q⟩
def xCat (K : PySem.W.Frag) : R2 := fun x y H Q => ∃ a b vs ws, x = .ref a ∧ y = .ref b ∧ SqX K H a vs ∧ SqX K H b ws ∧ vs.length + ws.length ≤ sizeLine ∧
  (vs = [] → Q (.ref b) H) ∧ (vs ≠ [] → ws = [] → Q (.ref a) H) ∧ (vs ≠ [] → ws ≠ [] → NewT H (vs ++ ws) Q)
theorem op_catX : OpR X (binaryOp .Add) (xCat X.K) := by
  intro pins s σ H x y v u Q I rx ry want
  obtain ⟨a, b, vs, ws, ex, ey, ha, hb, few, q0, q1, q2⟩ := want
  subst ex; subst ey
  cases rx
  cases ry
  obtain ⟨its, r1, p1, _⟩ := I.tuple ha.t
  obtain ⟨jts, r2, p2, _⟩ := I.tuple hb.t
  by_cases hv : vs = []
  · subst hv
    cases r1
    exact cat_tup0 p1 p2 ⟨.ref b, H, I, rfl, (q0 rfl : _)⟩
  · refine HT.cat_tup p1 p2 (fun z => hv (r1.nil_iff.mp z)) (fun z => ⟨.ref a, H, I, rfl, q1 hv (r2.nil_iff.mp z)⟩) (fun z => ?_) (by rw [← r1.length, ← r2.length]; exact few)
    exact laid_tup I (r1.append r2) (by rw [List.length_append]; exact few) (q2 hv fun w => z (r2.nil_iff.mpr w))
def xSl (K : PySem.W.Frag) : V → Option Int → Option Int → Hp → VK → Prop := fun x lo hi H Q => ∃ a vs, x = .ref a ∧ SqX K H a vs ∧
  (HT.sIx vs.length 0 lo = 0 ∧ HT.sIx vs.length vs.length hi = vs.length → Q (.ref a) H) ∧ (¬ (HT.sIx vs.length 0 lo = 0 ∧ HT.sIx vs.length vs.length hi = vs.length) → NewT H (cutV vs lo hi) Q)
theorem sl_tupX : SlR X (xSl X.K) := by
  intro pins s σ H x v vl vu lo hi sl Q I rx hs pl pu want
  obtain ⟨a, vs, ex, there, q1, q2⟩ := want
  subst ex
  cases rx
  obtain ⟨its, rv, tup, few⟩ := I.tuple there.t
  have len : its.toArray.size = vs.length := by rw [List.size_toArray]; exact rv.length.symm
  refine ⟨"tuple", _, PyProof.Rows.slot_tuple_getitem.lookup, tup.typeIs, ?_⟩
  by_cases whole : HT.sIx vs.length 0 lo = 0 ∧ HT.sIx vs.length vs.length hi = vs.length
  · exact getItem_tuple_whole tup hs pl pu (by rw [len]; exact whole) ⟨.ref a, H, I, rfl, q1 whole⟩
  · refine HT.getItem_tuple_cut tup hs pl pu (by rw [len]; exact whole) ?_ (by rw [len]; exact few)
    rw [len]
    exact laid_tup I ((rv.drop _).take _) (Nat.le_trans (cutV_length vs lo hi) few) (q2 whole)
def xTupRg (te : L2.St → Hp → (Int → Int → Hp → Prop) → Prop) : TE := fun σ H Q => te σ H fun a b H1 => RgOk a b ∧ NewT H1 (rgV a b) Q
theorem pe_tupRgX {p : Pos} (hc : X.calm = true) (hg : Gl X "tuple") (hm : X.mg "tuple" = none) {te : L2.St → Hp → (Int → Int → Hp → Prop) → Prop} (he : PRg X e te) (na : starEach [e] X.env = (false, eval e X.env) :: starEach [] X.env := by rfl) : PE X (.Call (.Name "tuple" p) [e] [] pos) (xTupRg te) := by
  refine ⟨fun pins s σ H Q I want => ?_⟩
  refine Call_ (ld_blt I hg hm boot_tuple (PyProof.Rows.callWith_type1 (args_cons (thn (he pins s σ H _ I want) fun x s1 ⟨rg, a, b, t1, t2, t3, H1, ex, isr, I1, ok, q⟩ => args_nil ?_) na) na))
  subst ex
  obtain ⟨lo1, lo2, hi1, hi2, many⟩ := ok
  refine call_tuple_range (n := (b - a).toNat) (I1.ok.hd hc) isr (small_one lo1 lo2 hi1 hi2) (rangeSize_nat a b) many fun h1 tk acc kept items => ?_
  have I2 : Inv X pins σ H1 { s1 with heap := h1, toks := tk } := I1.kept kept
  have fin := laid_tup (Q := Q) I2 (vals_rg items) (by rw [rgV_length, sizeLine_eq]; omega) q
  rw [Array.toArray_toList] at fin
  exact fin
def xRep (K : PySem.W.Frag) : R2 := fun x y H Q => ∃ a m vs, x = .ref a ∧ y = .int m ∧ SqX K H a vs ∧ vs ≠ [] ∧ 2 ≤ m ∧ m ≤ 1000 ∧ vs.length ≤ 1000 ∧ NewT H (List.replicate m.toNat vs).flatten Q
theorem op_repX : OpR X (binaryOp .Mult) (xRep X.K) := by
  intro pins s σ H x y v u Q I rx ry want
  obtain ⟨a, m, vs, ex, ey, there, some1, two, thou, few, q⟩ := want
  subst ex; subst ey
  cases rx
  obtain ⟨tk, eu⟩ := ry
  subst eu
  obtain ⟨its, rv, ⟨⟨cls, dd, data, sl⟩, at_a, hc, c, hd⟩, _⟩ := I.tuple there.t
  simp only at hc hd
  subst hc hd
  have len : its.length = vs.length := rv.length.symm
  have ne : its ≠ [] := fun z => some1 (rv.nil_iff.mp z)
  have full : its.toArray.isEmpty = false := by
    cases its with
    | nil => exact absurd rfl ne
    | cons _ _ => rfl
  have size : its.toArray.size = vs.length := by rw [List.size_toArray, len]
  have mill : ((its.toArray.size : Nat) : Int) * m ≤ 1000000 := by
    rw [size]
    have := Int.mul_le_mul_of_nonneg_right (show ((vs.length : Nat) : Int) ≤ 1000 by omega) (show 0 ≤ m by omega)
    omega
  have flat : (List.replicate m.toNat its).flatten.length ≤ sizeLine := by
    rw [PyProof.Rows.lm_len_rep_flat, len, sizeLine_eq]
    have := Nat.mul_le_mul (show m.toNat ≤ 1000 by omega) few
    omega
  have d0 : (decide (m < -(2 ^ 63)) || decide (m ≥ 2 ^ 63)) = false := by
    rw [Bool.or_eq_false_iff]; exact ⟨decide_eq_false (by omega), decide_eq_false (by omega)⟩
  have d1 : (its.toArray.isEmpty || m == 1) = false := by
    rw [full, Bool.false_or]; exact beq_eq_false_iff_ne.mpr (by omega)
  have d2 : (decide (m ≤ 0) || its.toArray.isEmpty) = false := by
    rw [full, Bool.or_false]; exact decide_eq_false (by omega)
  have d4 : Builtin.Tuple.tupleTooMany (((its.toArray.size : Nat) : Int) * m) = false := by
    unfold Builtin.Tuple.tupleTooMany; rw [sizeLine_eq]; exact decide_eq_false (by omega)
  have inner := tuple_mulW a its.toArray c dd sl m tk d0 d1 d2 (by omega) d4 (by rw [size_rep, List.size_toArray]; exact flat)
  have isT : s.TypeIs (.ref a) "tuple" := ⟨_, at_a, rfl⟩
  have run := call_meets (A := X.A) (prog := X.prog) (w := X.w) (E := X.xe) (s := s) F.slot_tuple_mul isT F.entry_tuple_mul (F.args_tuple_mul_2 _ _) inner
    (Q := EP X pins σ Q) ⟨at_a, by
      rw [size_rep]
      refine laid_tup I (rv.rep m.toNat) ?_ q
      rw [(rv.rep m.toNat).length]; exact flat⟩
  exact wpAny_binaryOp_repeat_ref (T := "tuple") (U := "int") (by decide) ⟨_, at_a, rfl⟩ (fun s' => typeIs_int s' m tk) noFill_tuple_mul F.fills_int_mul F.slot_int_rmul repeat_tuple F.slot_int_index.lookup
    (call_meets F.slot_int_rmul (typeIs_int s m tk) F.entry_int_rmul (F.args_int_rmul_2 _ _) (int_rmul_tuple m tk a its.toArray c dd sl) ⟨at_a, rfl, ⟨_, at_a, rfl⟩, run⟩)
end
namespace PLr
theorem tuple_mul_one (l : Addr) (items : Array Value) (n : Nat) (dd : Option Addr) (sl : Array (Option Value)) (u : Tok) :
    Meets (Builtin.«tuple.__mul__» ⟨[.ref l, .int 1 u], []⟩) (fun _ R s => s.heap.get? l = some { cls := .type "tuple", dict := dd, data := .seq items n, slots := sl } ∧ R (.ok (.ret (.ref l))) s) :=
  .of_wp fun _ _ _ _ st ⟨hl, fin⟩ => by
    obtain ⟨hp, gens, drawn, tk, os⟩ := st
    have ix := AutoSeq1.idx_int; wp_walk using wpAny_loadPart' hl
    repeat (first
      | (refine wpAny_ite_false (decide_eq_false (by decide)) ?_; wp_walk using wpAny_loadPart' hl)
      | (refine wpAny_ite_true (by simp) ?_; wp_walk using wpAny_loadPart' hl))
    exact ⟨_, rfl, fin⟩
end PLr
section
variable {X : Cx}
/-- t * 1 is t -/
def xRep1 (K : PySem.W.Frag) : R2 := fun x y H Q => ∃ a vs, x = .ref a ∧ y = .int 1 ∧ SqX K H a vs ∧ Q (.ref a) H
theorem op_rep1 : OpR X (binaryOp .Mult) (xRep1 X.K) := by
  intro pins s σ H x y v u Q I rx ry want
  obtain ⟨a, vs, ex, ey, there, q⟩ := want
  subst ex; subst ey
  cases rx
  obtain ⟨tk, eu⟩ := ry
  subst eu
  obtain ⟨its, rv, ⟨⟨cls, dd, data, sl⟩, at_a, hc, c, hd⟩, _⟩ := I.tuple there.t
  simp only at hc hd
  subst hc hd
  have isT : s.TypeIs (.ref a) "tuple" := ⟨_, at_a, rfl⟩
  have run := call_meets (A := X.A) (prog := X.prog) (w := X.w) (E := X.xe) (s := s) F.slot_tuple_mul isT F.entry_tuple_mul (F.args_tuple_mul_2 _ _) (PLr.tuple_mul_one a its.toArray c dd sl tk)
    (Q := EP X pins σ Q) ⟨at_a, .ref a, H, I, rfl, q⟩
  exact wpAny_binaryOp_repeat_ref (T := "tuple") (U := "int") (by decide) ⟨_, at_a, rfl⟩ (fun s' => typeIs_int s' 1 tk) noFill_tuple_mul F.fills_int_mul F.slot_int_rmul repeat_tuple F.slot_int_index.lookup
    (call_meets F.slot_int_rmul (typeIs_int s 1 tk) F.entry_int_rmul (F.args_int_rmul_2 _ _) (int_rmul_tuple 1 tk a its.toArray c dd sl) ⟨at_a, rfl, ⟨_, at_a, rfl⟩, run⟩)
end
/-! a tuple's methods -/
section
variable {X : Cx} {o e : Expr} {es : List Expr} {to : TE} {t : TA} {name : Str} {apos cpos : Pos} {id : String} {r : V → List V → Hp → VK → Prop}
def xBM (K : PySem.W.Frag) (r : V → List V → Hp → VK → Prop) (to : TE) (t : TA) : TE := fun σ H Q => to σ H fun x H1 => (∃ a vs, x = .ref a ∧ SqX K H1 a vs) ∧ t σ H1 fun as H2 => r x as H2 Q
theorem pe_bmX (slot : Slot "tuple" name id) (hty : typeOf (.builtin id) = pure (.type "method_descriptor")) (hm : MtR X id r) (ho : PE X o to) (ha : PA X (e :: es) t)
    (base0 : attributeBase o name X.env (eval o X.env) = eval o X.env := by rfl)
    (few0 : (((backTo cpos (starEach (e :: es) X.env)).all (fun x => !x.1) && (backToKw cpos (keywordEach [] X.env)).all (fun x => x.1.isSome)) && decide ((e :: es).length + ([] : List Keyword).length + (if ([] : List Keyword).isEmpty then 0 else 1) < 30)) = true := by rfl)
    (line0 : (apos.endLine == cpos.line) = true := by rfl) (star0 : starEach (e :: es) X.env = (false, eval e X.env) :: starEach es X.env := by rfl) (plain0 : (backTo cpos (starEach es X.env)).any (·.1) = false := by rfl) :
    PE X (.Call (.Attribute o name apos) (e :: es) [] cpos) (xBM X.K r to t) := by
  refine ⟨fun pins s σ H Q I want => ?_⟩
  refine wpAny_Call_method_late base0 few0 line0 rfl (thn (ho.run pins s σ H _ I want) fun v s1 ⟨x, H1, I1, r1, ⟨a, vs, ex, there⟩, q1⟩ => ?_)
  subst ex
  cases r1
  obtain ⟨isT, bare⟩ := there.bare I1
  refine ⟨"tuple", id, PySem.F.plainAttrs_tuple, slot, hty, isT, bare, ?_⟩
  have args := ha.run cpos pins s1 σ H1 _ I1 q1
  rw [star0] at args ⊢
  refine Calls.callWith_builtin (by show (false || (backTo cpos (starEach es X.env)).any (·.1)) = false; rw [plain0]; rfl) (Calls.evalArgs_plain ?_)
  exact thn args fun us s2 ⟨as, H2, I2, r2, q2⟩ => hm pins s2 σ H2 (.ref a) as _ us Q I2 rfl r2 q2
end
/-- t.index(x): of ints, of texts -/
def rIdxT (K : PySem.W.Frag) : V → List V → Hp → VK → Prop := fun x as H Q => ∃ a, x = .ref a ∧
  ((∃ (ns : List Int) (k : Int), as = [.int k] ∧ SqT K H a (ns.map V.int) ∧ k ∈ ns ∧ Q (.int (ns.idxOf k : Nat)) H) ∨
   (∃ (ns : List Str) (k : Str), as = [.str k] ∧ SqT K H a (ns.map V.str) ∧ k ∈ ns ∧ Q (.int (ns.idxOf k : Nat)) H))
theorem mt_idxT {X : Cx} : MtR X "tuple.index" (rIdxT X.K) := by
  intro pins s σ H x as v us Q I rx ra want
  obtain ⟨a, ex, want⟩ := want
  subst ex
  cases rx
  rcases want with ⟨ns, k, ea, there, hk, q⟩ | ⟨ns, k, ea, there, hk, q⟩
  · subst ea
    obtain ⟨u, eu, t, eu2⟩ := vals1 ra
    subst eu; subst eu2
    obtain ⟨its, rv, tup, _⟩ := I.tuple there
    exact PySem.SeqAt.tuple_index_ints tup (intsAre_of rv) hk ⟨.int _, H, I.tok _, ⟨_, rfl⟩, q⟩
  · subst ea
    obtain ⟨u, eu, t, eu2⟩ := vals1 ra
    subst eu; subst eu2
    obtain ⟨its, rv, tup, _⟩ := I.tuple there
    exact PySem.SeqAt.tuple_index_strs tup (strsAre_of rv) hk ⟨.int _, H, I.tok _, ⟨_, rfl⟩, q⟩
end PL

set_option Elab.async false
set_option linter.all false
set_option maxRecDepth 100000
set_option maxHeartbeats 2000000
/-! PL1: a data layer over the hand layer: tuples are plain values, lists and dicts stand at addresses, what is not needed may be dropped. -/
namespace PL
open PySem L2

abbrev Kf := PySem.W.Frag
inductive PV where
  | non | bl (b : Bool) | int (i : Int) | str (x : Str) | tup (l : List PV) | ref (a : Addr) | ty (n : String)

mutual
inductive Rep (K : Kf) (H : Hp) : PV → V → Prop
  | non : Rep K H .non .non
  | bl (b) : Rep K H (.bl b) (.bl b)
  | int (i) : Rep K H (.int i) (.int i)
  | str (x) : Rep K H (.str x) (.str x)
  | ref (a) : Rep K H (.ref a) (.ref a)
  | ty (n) : Rep K H (.ty n) (.ty n)
  | tup {l a vs} : SqX K H a vs → Reps K H l vs → Rep K H (.tup l) (.ref a)
inductive Reps (K : Kf) (H : Hp) : List PV → List V → Prop
  | nil : Reps K H [] []
  | cons {p v ps vs} : Rep K H p v → Reps K H ps vs → Reps K H (p :: ps) (v :: vs)
end

def Tk (K : Kf) (H H' : Hp) : Prop := ∀ a xs, SqX K H a xs → SqX K H' a xs
theorem Tk.refl (K : Kf) (H : Hp) : Tk K H H := fun _ _ h => h
theorem Tk.trans {K : Kf} {H H1 H2 : Hp} (a : Tk K H H1) (b : Tk K H1 H2) : Tk K H H2 := fun x xs h => b x xs (a x xs h)
theorem Tk.upd {K : Kf} {H : Hp} {p : Addr} {o : HO} (h : ∀ xs, ¬ Rd H p (.tup xs)) : Tk K H (upd H p o) := fun a xs e => by
  rcases e with ⟨ob, e, d⟩ | e
  · have ne : a ≠ p := fun q => h xs (q ▸ .inr ⟨ob, e⟩)
    exact .inl ⟨ob, by rw [upd_ne ne]; exact e, d⟩
  · exact .inr e
theorem Tk.new {K : Kf} {H : Hp} {p : Addr} {o : HO} (h : H p = none) : Tk K H (L2.upd H p o) := .upd fun xs e => by
  rcases e with e | ⟨u, e⟩ <;> rw [h] at e <;> cases e

mutual
theorem Rep.mono {K : Kf} {H H' : Hp} (t : Tk K H H') : ∀ {p v}, Rep K H p v → Rep K H' p v
  | _, _, .non => .non
  | _, _, .bl b => .bl b
  | _, _, .int b => .int b
  | _, _, .str b => .str b
  | _, _, .ref b => .ref b
  | _, _, .ty b => .ty b
  | _, _, .tup h r => .tup (t _ _ h) (Reps.mono t r)
theorem Reps.mono {K : Kf} {H H' : Hp} (t : Tk K H H') : ∀ {p v}, Reps K H p v → Reps K H' p v
  | _, _, .nil => .nil
  | _, _, .cons h r => .cons (Rep.mono t h) (Reps.mono t r)
end

section
variable {K : Kf} {H : Hp}
theorem Reps.length : ∀ {ps vs}, Reps K H ps vs → ps.length = vs.length
  | _, _, .nil => rfl
  | _, _, .cons _ t => congrArg (· + 1) (Reps.length t)
theorem Reps.get : ∀ {ps vs} {i : Nat} {p}, Reps K H ps vs → ps[i]? = some p → ∃ v, vs[i]? = some v ∧ Rep K H p v
  | _, _, _, _, .nil, e => by simp at e
  | _, _, 0, _, .cons r _, e => by simp at e; subst e; exact ⟨_, rfl, r⟩
  | _, _, i + 1, p, .cons _ t, e => by
    obtain ⟨u, h1, h2⟩ := Reps.get (i := i) (p := p) t (by simpa using e)
    exact ⟨u, by simpa using h1, h2⟩
theorem Reps.append : ∀ {ps vs qs ws}, Reps K H ps vs → Reps K H qs ws → Reps K H (ps ++ qs) (vs ++ ws)
  | _, _, _, _, .nil, s => s
  | _, _, _, _, .cons r t, s => .cons r (Reps.append t s)
theorem Reps.set {p v} (r : Rep K H p v) : ∀ {ps vs} (i : Nat), Reps K H ps vs → Reps K H (ps.set i p) (vs.set i v)
  | _, _, _, .nil => .nil
  | _, _, 0, .cons _ t => .cons r t
  | _, _, i + 1, .cons q t => .cons q (Reps.set r i t)
theorem Reps.take : ∀ {ps vs} (n : Nat), Reps K H ps vs → Reps K H (ps.take n) (vs.take n)
  | _, _, 0, _ => .nil
  | _, _, _ + 1, .nil => .nil
  | _, _, n + 1, .cons r t => .cons r (Reps.take n t)
theorem Reps.drop : ∀ {ps vs} (n : Nat), Reps K H ps vs → Reps K H (ps.drop n) (vs.drop n)
  | _, _, 0, r => r
  | _, _, _ + 1, .nil => .nil
  | _, _, n + 1, .cons _ t => Reps.drop n t
theorem Reps.ints : ∀ {ns : List Int} {vs}, Reps K H (ns.map PV.int) vs → vs = ns.map V.int
  | [], _, .nil => rfl
  | _ :: _, _, .cons (.int _) t => by rw [Reps.ints t]; rfl
theorem Reps.of_ints : ∀ {ns : List Int}, Reps K H (ns.map PV.int) (ns.map V.int)
  | [] => .nil
  | _ :: _ => .cons (.int _) Reps.of_ints
theorem Reps.strs : ∀ {ns : List Str} {vs}, Reps K H (ns.map PV.str) vs → vs = ns.map V.str
  | [], _, .nil => rfl
  | _ :: _, _, .cons (.str _) t => by rw [Reps.strs t]; rfl
theorem Reps.of_strs : ∀ {ns : List Str}, Reps K H (ns.map PV.str) (ns.map V.str)
  | [] => .nil
  | _ :: _ => .cons (.str _) Reps.of_strs
theorem Reps.snoc {ps vs p v} (h : Reps K H ps vs) (r : Rep K H p v) : Reps K H (ps ++ [p]) (vs ++ [v]) := h.append (.cons r .nil)
theorem Reps.nil_iff {ps vs} (h : Reps K H ps vs) : ps = [] ↔ vs = [] := by
  cases h with
  | nil => simp
  | cons a b => simp
end

/-! ### what stands at an address -/
inductive MO where
  | lst (l : List PV)
  | ro (l : List PV)
  | dK (kvs : List (Key × PV))
  | xd (fs : List (Str × PV))
  | rK (o : Obj) (vs : List (Key × V)) (kvs : List (Key × PV))
  | ins (C dx : Addr) (fs : List (Str × PV))
abbrev PHp := Addr → Option MO
def updM (M : PHp) (a : Addr) (o : MO) : PHp := fun b => if b = a then some o else M b
theorem updM_same {M : PHp} {a : Addr} {o : MO} : updM M a o a = some o := by unfold updM; rw [if_pos rfl]
theorem updM_ne {M : PHp} {a b : Addr} {o : MO} (h : b ≠ a) : updM M a o b = M b := by unfold updM; rw [if_neg h]
theorem updM_updM {M : PHp} {a : Addr} {o u : MO} : updM (updM M a o) a u = updM M a u := by
  funext b; unfold updM; split <;> rfl
theorem updM_self {M : PHp} {a : Addr} {o : MO} (h : M a = some o) : updM M a o = M := by
  funext b; unfold updM; split
  · next e => rw [e, h]
  · rfl
theorem updM_comm {M : PHp} {a b : Addr} {o u : MO} (h : a ≠ b) : updM (updM M a o) b u = updM (updM M b u) a o := by
  funext c; unfold updM
  by_cases h1 : c = b
  · subst h1; rw [if_pos rfl, if_neg (Ne.symm h), if_pos rfl]
  · rw [if_neg h1, if_neg h1]
theorem neM {M : PHp} {a b : Addr} {o : MO} (h : M a = some o) (h' : M b = none) : a ≠ b := by
  intro e; subst e; rw [h] at h'; cases h'
theorem neM' {M : PHp} {a b : Addr} {o : MO} (h : M a = some o) (h' : M b = none) : b ≠ a := (neM h h').symm
def Sub (M M' : PHp) : Prop := ∀ a o, M a = some o → M' a = some o
theorem Sub.refl (M : PHp) : Sub M M := fun _ _ h => h
theorem Sub.trans {M M1 M2 : PHp} (a : Sub M M1) (b : Sub M1 M2) : Sub M M2 := fun x o h => b x o (a x o h)
theorem Sub.new {M : PHp} {p : Addr} {o : MO} (h : M p = none) : Sub M (updM M p o) := fun a u e => by rw [updM_ne (neM e h)]; exact e
theorem Sub.upd {M M' : PHp} {p : Addr} {o : MO} (h : Sub M M') : Sub (updM M p o) (updM M' p o) := fun a u e => by
  unfold updM at e ⊢; split
  · next q => rw [if_pos q] at e; exact e
  · next q => rw [if_neg q] at e; exact h a u e

inductive RepKV (K : Kf) (H : Hp) : List (Key × PV) → List (Key × V) → Prop
  | nil : RepKV K H [] []
  | cons {k p v ps vs} : Rep K H p v → RepKV K H ps vs → RepKV K H ((k, p) :: ps) ((k, v) :: vs)
theorem RepKV.mono {K : Kf} {H H' : Hp} (t : Tk K H H') {ps vs} (h : RepKV K H ps vs) : RepKV K H' ps vs := by
  induction h with
  | nil => exact .nil
  | cons a _ ih => exact .cons (a.mono t) ih
inductive RepXD (K : Kf) (H : Hp) : List (Str × PV) → List (Str × V) → Prop
  | nil : RepXD K H [] []
  | cons {k p v ps vs} : Rep K H p v → RepXD K H ps vs → RepXD K H ((k, p) :: ps) ((k, v) :: vs)
theorem RepXD.mono {K : Kf} {H H' : Hp} (t : Tk K H H') {ps vs} (h : RepXD K H ps vs) : RepXD K H' ps vs := by
  induction h with
  | nil => exact .nil
  | cons a _ ih => exact .cons (a.mono t) ih

def OkM (K : Kf) (H : Hp) (a : Addr) : MO → Prop
  | .lst l => ∃ vs, H a = some (.lst vs) ∧ Reps K H l vs
  | .ro l => ∃ vs, Rd H a (.lst vs) ∧ Reps K H l vs
  | .dK kvs => ∃ vs, H a = some (.dK vs) ∧ RepKV K H kvs vs
  | .xd fs => ∃ vs, H a = some (.xd vs) ∧ RepXD K H fs vs
  | .rK o vs kvs => H a = some (.frz o (.dK vs)) ∧ RepKV K H kvs vs
  | .ins C dx fs => ∃ vs, H a = some (.ins C dx vs) ∧ RepXD K H fs vs
def RelM (K : Kf) (H : Hp) (M : PHp) : Prop := ∀ a o, M a = some o → OkM K H a o
theorem RelM.sub {K : Kf} {H : Hp} {M M' : PHp} (h : RelM K H M') (s : Sub M M') : RelM K H M := fun a o e => h a o (s a o e)
/-- what the object at b's description leans on -/
theorem OkM.stay {K : Kf} {H H' : Hp} {a : Addr} {o : MO} (h : OkM K H a o) (t : Tk K H H') (k : H' a = H a) : OkM K H' a o := by
  cases o with
  | lst l => obtain ⟨vs, e, r⟩ := h; exact ⟨vs, k.trans e, r.mono t⟩
  | ro l =>
    obtain ⟨vs, e, r⟩ := h
    refine ⟨vs, ?_, r.mono t⟩
    rcases e with e | ⟨u, e⟩
    · exact .inl (k.trans e)
    · exact .inr ⟨u, k.trans e⟩
  | dK l => obtain ⟨vs, e, r⟩ := h; exact ⟨vs, k.trans e, r.mono t⟩
  | xd l => obtain ⟨vs, e, r⟩ := h; exact ⟨vs, k.trans e, r.mono t⟩
  | rK o vs l => obtain ⟨e, r⟩ := h; exact ⟨k.trans e, r.mono t⟩
  | ins C dx l => obtain ⟨vs, e, r⟩ := h; exact ⟨vs, k.trans e, r.mono t⟩
theorem OkM.there {K : Kf} {H : Hp} {a : Addr} {o : MO} (h : OkM K H a o) : H a ≠ none := by
  cases o with
  | lst l => obtain ⟨vs, e, r⟩ := h; rw [e]; simp
  | ro l =>
    obtain ⟨vs, e, r⟩ := h
    rcases e with e | ⟨u, e⟩ <;> rw [e] <;> simp
  | dK l => obtain ⟨vs, e, r⟩ := h; rw [e]; simp
  | xd l => obtain ⟨vs, e, r⟩ := h; rw [e]; simp
  | rK o vs l => obtain ⟨e, r⟩ := h; rw [e]; simp
  | ins C dx l => obtain ⟨vs, e, r⟩ := h; rw [e]; simp
theorem RelM.fresh {K : Kf} {H : Hp} {M : PHp} {p : Addr} (h : RelM K H M) (hp : H p = none) : M p = none := by
  cases q : M p with
  | none => rfl
  | some o => exact absurd hp (h p o q).there
/-- a new object that is not of M -/
theorem RelM.new {K : Kf} {H : Hp} {M : PHp} {p : Addr} {o : HO} (h : RelM K H M) (hp : H p = none) : RelM K (L2.upd H p o) M := fun a u e =>
  (h a u e).stay (.new hp) (upd_ne fun q => (h a u e).there (q ▸ hp))
/-- fresh in the heap (a module's own object aside) -/
theorem RelM.put {K : Kf} {H : Hp} {M : PHp} {p : Addr} {o : HO} {m : MO} (h : RelM K H M) (t : Tk K H (L2.upd H p o)) (hm : OkM K (L2.upd H p o) p m) : RelM K (L2.upd H p o) (updM M p m) := fun a u e => by
  by_cases hap : a = p
  · subst hap; rw [updM_same] at e; cases e; exact hm
  · rw [updM_ne hap] at e
    exact (h a u e).stay t (upd_ne hap)
theorem no_tup {H : Hp} {p : Addr} {o : HO} (h : H p = some o) (h1 : ∀ xs, o ≠ .tup xs) (h2 : ∀ u v, o ≠ .frz u v) : ∀ xs, ¬ Rd H p (.tup xs) := fun xs e => by
  rcases e with e | ⟨u, e⟩
  · rw [h] at e; exact h1 xs (Option.some.inj e)
  · rw [h] at e; exact h2 u _ (Option.some.inj e)
theorem Tk.lst {K : Kf} {H : Hp} {p : Addr} {vs : List V} {o : HO} (h : H p = some (.lst vs)) : Tk K H (L2.upd H p o) := .upd (no_tup h (fun _ z => nomatch z) (fun _ _ z => nomatch z))
theorem Tk.dK {K : Kf} {H : Hp} {p : Addr} {vs : List (Key × V)} {o : HO} (h : H p = some (.dK vs)) : Tk K H (L2.upd H p o) := .upd (no_tup h (fun _ z => nomatch z) (fun _ _ z => nomatch z))

/-- a list of the module's own -/
def KL (K : Kf) (a : Addr) (l : List PV) : Prop := ∃ vs, (∃ (o : Obj) (its : Array Value) (n : Nat), K.lookup a = some o ∧ o.cls = .type "list" ∧ o.dict = none ∧ o.data = .seq its n ∧ its.size ≤ sizeLine ∧ Vals vs its.toList) ∧ ∀ H, Reps K H l vs
/-- a list that is read -/
def rdL (K : Kf) (M : PHp) (a : Addr) (l : List PV) : Prop := M a = some (.lst l) ∨ M a = some (.ro l) ∨ KL K a l
theorem rdL.to {K : Kf} {H : Hp} {M : PHp} {a : Addr} {l : List PV} (h : rdL K M a l) (m : RelM K H M) : ∃ vs, SqL K H a vs ∧ Reps K H l vs := by
  rcases h with h | h | ⟨vs, h, r⟩
  · obtain ⟨vs, e, r⟩ := m a _ h
    exact ⟨vs, .of e, r⟩
  · obtain ⟨vs, e, r⟩ := m a _ h
    exact ⟨vs, .inl e, r⟩
  · exact ⟨vs, .inr h, r H⟩

/-! ### slots -/
abbrev PSt := List (Option PV)
abbrev PVK := PV → PHp → Prop
abbrev PXK := Value → Option Addr → PHp → Prop
inductive RelS (K : Kf) (H : Hp) : PSt → L2.St → Prop
  | nil : RelS K H [] []
  | no {ps vs v} : RelS K H ps vs → RelS K H (none :: ps) (v :: vs)
  | yes {p v ps vs} : Rep K H p v → RelS K H ps vs → RelS K H (some p :: ps) (some v :: vs)
theorem RelS.mono {K : Kf} {H H' : Hp} (t : Tk K H H') {ps vs} (h : RelS K H ps vs) : RelS K H' ps vs := by
  induction h with
  | nil => exact .nil
  | no _ ih => exact .no ih
  | yes a _ ih => exact .yes (a.mono t) ih
theorem RelS.get {K : Kf} {H : Hp} : ∀ {σ τ} {i : Nat} {p}, RelS K H σ τ → σ[i]? = some (some p) → ∃ v, τ[i]? = some (some v) ∧ Rep K H p v
  | _, _, _, _, .nil, e => by simp at e
  | _, _, 0, _, .no _, e => by simp at e
  | _, _, 0, _, .yes r _, e => by simp at e; subst e; exact ⟨_, rfl, r⟩
  | _, _, i + 1, p, .no t, e => by
    obtain ⟨u, h1, h2⟩ := RelS.get (i := i) (p := p) t (by simpa using e)
    exact ⟨u, by simpa using h1, h2⟩
  | _, _, i + 1, p, .yes _ t, e => by
    obtain ⟨u, h1, h2⟩ := RelS.get (i := i) (p := p) t (by simpa using e)
    exact ⟨u, by simpa using h1, h2⟩
theorem RelS.set {K : Kf} {H : Hp} {p v} (r : Rep K H p v) : ∀ {σ τ} (i : Nat), RelS K H σ τ → RelS K H (σ.set i (some p)) (τ.set i (some v))
  | _, _, _, .nil => .nil
  | _, _, 0, .no t => .yes r t
  | _, _, 0, .yes _ t => .yes r t
  | _, _, i + 1, .no t => .no (RelS.set r i t)
  | _, _, i + 1, .yes q t => .yes q (RelS.set r i t)
/-- forgotten slots -/
inductive SubS : PSt → PSt → Prop
  | nil : SubS [] []
  | none {x a b} : SubS a b → SubS (Option.none :: a) (x :: b)
  | same {x a b} : SubS a b → SubS (x :: a) (x :: b)
theorem SubS.refl : ∀ σ : PSt, SubS σ σ
  | [] => .nil
  | _ :: r => .same (SubS.refl r)
theorem RelS.sub {K : Kf} {H : Hp} {σ0 σ : PSt} {τ : L2.St} (h : RelS K H σ τ) (s : SubS σ0 σ) : RelS K H σ0 τ := by
  induction s generalizing τ with
  | nil => exact h
  | none _ ih =>
    cases h with
    | no t => exact .no (ih t)
    | yes r t => exact .no (ih t)
  | same _ ih =>
    cases h with
    | no t => exact .no (ih t)
    | yes r t => exact .yes r (ih t)
theorem RelS.length {K : Kf} {H : Hp} {σ : PSt} {τ : L2.St} (h : RelS K H σ τ) : σ.length = τ.length := by
  induction h with
  | nil => rfl
  | no _ ih => exact congrArg (· + 1) ih
  | yes _ _ ih => exact congrArg (· + 1) ih

/-! ### readings -/
abbrev TEp := PSt → PHp → PVK → Prop
abbrev TTp := PSt → PHp → (Bool → PHp → Prop) → Prop
abbrev TAp := PSt → PHp → (List PV → PHp → Prop) → Prop
structure PEnds where
  nx : PSt → PHp → Prop
  rt : PVK
  bk : PSt → PHp → Prop := fun _ _ => False
  ct : PSt → PHp → Prop := fun _ _ => False
abbrev TSp := PEnds → PSt → PHp → Prop
section
variable (K : Kf) (H0 : Hp)
def concE (u : TEp) : TE := fun σ H Q => ∃ σp M Qp, Tk K H0 H ∧ RelS K H σp σ ∧ RelM K H M ∧ u σp M Qp ∧ ∀ v H' p M', Tk K H H' → RelM K H' M' → Rep K H' p v → Qp p M' → Q v H'
def concT (u : TTp) : TT := fun σ H Q => ∃ σp M Qp, Tk K H0 H ∧ RelS K H σp σ ∧ RelM K H M ∧ u σp M Qp ∧ ∀ b H' M', Tk K H H' → RelM K H' M' → Qp b M' → Q b H'
def concA (u : TAp) : TA := fun σ H Q => ∃ σp M Qp, Tk K H0 H ∧ RelS K H σp σ ∧ RelM K H M ∧ u σp M Qp ∧ ∀ vs H' ps M', Tk K H H' → RelM K H' M' → Reps K H' ps vs → Qp ps M' → Q vs H'
structure EndsRel (H : Hp) (D : Ends) (Dp : PEnds) : Prop where
  nx : ∀ σ H' σp M', Tk K H H' → RelS K H' σp σ → RelM K H' M' → Dp.nx σp M' → D.nx σ H'
  rt : ∀ v H' p M', Tk K H H' → RelM K H' M' → Rep K H' p v → Dp.rt p M' → D.rt v H'
  bk : ∀ σ H' σp M', Tk K H H' → RelS K H' σp σ → RelM K H' M' → Dp.bk σp M' → D.bk σ H'
  ct : ∀ σ H' σp M', Tk K H H' → RelS K H' σp σ → RelM K H' M' → Dp.ct σp M' → D.ct σ H'
def concS (u : TSp) : TS := fun D σ H => ∃ σp M Dp, Tk K H0 H ∧ RelS K H σp σ ∧ RelM K H M ∧ u Dp σp M ∧ EndsRel K H D Dp
end
theorem EndsRel.mono {K : Kf} {H H' : Hp} {D : Ends} {Dp : PEnds} (h : EndsRel K H D Dp) (t : Tk K H H') : EndsRel K H' D Dp :=
  ⟨fun a b c d e => h.nx a b c d (t.trans e), fun a b c d e => h.rt a b c d (t.trans e), fun a b c d e => h.bk a b c d (t.trans e), fun a b c d e => h.ct a b c d (t.trans e)⟩
abbrev PEp (X : Cx) (H0 : Hp) (e : Expr) (u : TEp) : Prop := PE X e (concE X.K H0 u)
abbrev PTp (X : Cx) (H0 : Hp) (e : Expr) (u : TTp) : Prop := PT X e (concT X.K H0 u)
abbrev PWp (X : Cx) (H0 : Hp) (e : Expr) (u : TTp) : Prop := PW X e (concT X.K H0 u)
abbrev PAp (X : Cx) (H0 : Hp) (es : List Expr) (u : TAp) : Prop := PA X es (concA X.K H0 u)
abbrev PSp' (X : Cx) (H0 : Hp) (s : Stmt) (u : TSp) : Prop := PS X s (concS X.K H0 u)
abbrev PSsp (X : Cx) (H0 : Hp) (s : List Stmt) (u : TSp) : Prop := PSs X s (concS X.K H0 u)
/-- a weaker reading -/
theorem peW {X : Cx} {e : Expr} {t t' : TE} (h : PE X e t) (w : ∀ σ H Q, t' σ H Q → t σ H Q) : PE X e t' := ⟨fun pins s σ H Q I q => h.run pins s σ H Q I (w _ _ _ q)⟩
theorem ptW {X : Cx} {e : Expr} {t t' : TT} (h : PT X e t) (w : ∀ σ H Q, t' σ H Q → t σ H Q) : PT X e t' := ⟨fun pins s σ H Q I q => h.run pins s σ H Q I (w _ _ _ q)⟩
theorem pwW {X : Cx} {e : Expr} {t t' : TT} (h : PW X e t) (w : ∀ σ H Q, t' σ H Q → t σ H Q) : PW X e t' := ⟨fun wh pins s σ H Q I q => h.run wh pins s σ H Q I (w _ _ _ q)⟩
theorem paW {X : Cx} {e : List Expr} {t t' : TA} (h : PA X e t) (w : ∀ σ H Q, t' σ H Q → t σ H Q) : PA X e t' := ⟨fun pos pins s σ H Q I q => h.run pos pins s σ H Q I (w _ _ _ q)⟩
theorem psW {X : Cx} {e : Stmt} {t t' : TS} (h : PS X e t) (w : ∀ D σ H, t' D σ H → t D σ H) : PS X e t' := ⟨fun pins s σ H D I q => h.run pins s σ H D I (w _ _ _ q)⟩
theorem pssW {X : Cx} {e : List Stmt} {t t' : TS} (h : PSs X e t) (w : ∀ D σ H, t' D σ H → t D σ H) : PSs X e t' := ⟨fun pins s σ H D I q => h.run pins s σ H D I (w _ _ _ q)⟩
theorem concE.use {K : Kf} {H0 : Hp} {u : TEp} {σ : L2.St} {H : Hp} {Q : VK} {σp : PSt} {M : PHp} {Qp : PVK} (h : u σp M Qp) (t : Tk K H0 H) (s : RelS K H σp σ) (m : RelM K H M)
    (k : ∀ v H' p M', Tk K H H' → RelM K H' M' → Rep K H' p v → Qp p M' → Q v H') : concE K H0 u σ H Q := ⟨σp, M, Qp, t, s, m, h, k⟩

/-! ### leaves -/
section
variable {X : Cx} {H0 : Hp} {pos : Pos}
@[reducible] def tv (i : Nat) : TEp := fun σ M Q => match σ[i]? with | some (some p) => Q p M | _ => False
@[reducible] def tc (p : PV) : TEp := fun _ M Q => Q p M
theorem pv (i : Nat) {x : Str} (hN : X.N[i]? = some x := by rfl) (hv : Vis X.env.scope x := by first | exact Or.inl rfl | exact Or.inr (Or.inl rfl) | exact Or.inr (Or.inr rfl)) (hd : (x == ("__debug__" : Str)) = false := by decide)
    (hcd : (x == ("__classdict__" : Str)) = false := by decide) : PEp X H0 (.Name x pos) (tv i) :=
  peW (pe_var hN hv hd hcd) fun σ H Q ⟨σp, M, Qp, t, s, m, u, k⟩ => by
    unfold tv at u
    split at u
    · next p e =>
      obtain ⟨v, e1, r⟩ := s.get e
      exact ⟨v, e1, k v H p M (Tk.refl _ _) m r u⟩
    · exact u.elim
theorem pinT {i : Int} {j} : PEp X H0 (.Constant (.int i) j pos) (tc (.int i)) := peW pe_int fun σ H Q ⟨_, M, _, _, _, m, u, k⟩ => k _ H _ M (Tk.refl _ _) m (.int i) u
theorem pbl {i : Bool} {j} : PEp X H0 (.Constant (.bool i) j pos) (tc (.bl i)) := peW pe_bl fun σ H Q ⟨_, M, _, _, _, m, u, k⟩ => k _ H _ M (Tk.refl _ _) m (.bl i) u
theorem pnon {j} : PEp X H0 (.Constant .none j pos) (tc .non) := peW pe_non fun σ H Q ⟨_, M, _, _, _, m, u, k⟩ => k _ H _ M (Tk.refl _ _) m .non u
theorem pstr {x j} : PEp X H0 (.Constant (.str x) j pos) (tc (.str x)) := peW pe_str fun σ H Q ⟨_, M, _, _, _, m, u, k⟩ => k _ H _ M (Tk.refl _ _) m (.str x) u
/-- the module's own constant -/
theorem pglob {x : Str} {p : PV} {v : V} {u : Value} (hg : Gl X x) (hm : X.mg x = some u) (r : RelV v u) (hr : ∀ H, Rep X.K H p v) (hd : (x == ("__debug__" : Str)) = false := by decide) : PEp X H0 (.Name x pos) (tc p) :=
  peW (pe_glob hg hm r hd) fun σ H Q ⟨_, M, _, _, _, m, u, k⟩ => k _ H _ M (Tk.refl _ _) m (hr H) u
theorem pbltn {x : Str} {p : PV} {v : V} {u : Value} (hg : Gl X x) (hm : X.mg x = none) (hv : bootBuiltins x = some u) (r : RelV v u) (hr : ∀ H, Rep X.K H p v) (hn : x ≠ "__name__" := by decide) (hd : (x == ("__debug__" : Str)) = false := by decide) : PEp X H0 (.Name x pos) (tc p) :=
  peW (pe_bltn hg hm hv r hn hd) fun σ H Q ⟨_, M, _, _, _, m, u, k⟩ => k _ H _ M (Tk.refl _ _) m (hr H) u

/-! ### two-place operations on values -/
abbrev R2p := PV → PV → PHp → PVK → Prop
def SimR (K : Kf) (r : R2) (u : R2p) : Prop := ∀ x y H px py M (Q : VK) (Qp : PVK), Rep K H px x → Rep K H py y → RelM K H M → u px py M Qp → (∀ v H' p M', Tk K H H' → RelM K H' M' → Rep K H' p v → Qp p M' → Q v H') → r x y H Q
abbrev R1p := PV → PHp → PVK → Prop
def SimU (K : Kf) (r : V → Hp → VK → Prop) (u : R1p) : Prop := ∀ x H px M (Q : VK) (Qp : PVK), Rep K H px x → RelM K H M → u px M Qp → (∀ v H' p M', Tk K H H' → RelM K H' M' → Rep K H' p v → Qp p M' → Q v H') → r x H Q
abbrev RCp := List PV → PHp → PVK → Prop
def SimC (K : Kf) (r : List V → Hp → VK → Prop) (u : RCp) : Prop := ∀ xs H ps M (Q : VK) (Qp : PVK), Reps K H ps xs → RelM K H M → u ps M Qp → (∀ v H' p M', Tk K H H' → RelM K H' M' → Rep K H' p v → Qp p M' → Q v H') → r xs H Q
def OpP (X : Cx) (f : Value → Value → Sem Value) (u : R2p) : Prop := ∃ r, OpR X f r ∧ SimR X.K r u
def UnP (X : Cx) (f : Value → Sem Value) (u : R1p) : Prop := ∃ r, UnR X f r ∧ SimU X.K r u
def CallP (X : Cx) (f : Value) (u : RCp) : Prop := ∃ r, CallR X f r ∧ SimC X.K r u
@[reducible] def tOp (r : R2p) (ta tb : TEp) : TEp := fun σ M Q => ta σ M fun x M1 => tb σ M1 fun y M2 => r x y M2 Q
@[reducible] def tUn (r : R1p) (ta : TEp) : TEp := fun σ M Q => ta σ M fun x M1 => r x M1 Q
variable {a b : Expr} {ta tb : TEp} {r : R2p}
theorem op_conc {K : Kf} {r0 : R2} (hs : SimR K r0 r) {σ : L2.St} {H : Hp} {Q : VK} (h : concE K H0 (tOp r ta tb) σ H Q) : L2.tOp r0 (concE K H0 ta) (concE K H0 tb) σ H Q := by
  obtain ⟨σp, M, Qp, t, s, m, u, k⟩ := h
  refine ⟨σp, M, _, t, s, m, u, fun x H1 px M1 t1 m1 rx u1 => ?_⟩
  refine ⟨σp, M1, _, t.trans t1, s.mono t1, m1, u1, fun y H2 py M2 t2 m2 ry u2 => ?_⟩
  exact hs x y H2 px py M2 Q Qp (rx.mono t2) ry m2 u2 fun v H3 p M3 t3 m3 rv q => k v H3 p M3 ((t1.trans t2).trans t3) m3 rv q
theorem pop {op : Operator} (ho : OpP X (binaryOp op) r) (ha : PEp X H0 a ta) (hb : PEp X H0 b tb) : PEp X H0 (.BinOp a op b pos) (tOp r ta tb) := by
  obtain ⟨r0, h1, h2⟩ := ho
  exact peW (pe_op h1 ha hb) fun σ H Q h => op_conc h2 h
theorem pun {op : UnaryOp} {r : R1p} (ho : UnP X (unaryOp op) r) (ha : PEp X H0 a ta) : PEp X H0 (.UnaryOp op a pos) (tUn r ta) := by
  obtain ⟨r0, h1, h2⟩ := ho
  exact peW (pe_un h1 ha) fun σ H Q ⟨σp, M, Qp, t, s, m, u, k⟩ => ⟨σp, M, _, t, s, m, u, fun x H1 px M1 t1 m1 rx u1 => h2 x H1 px M1 Q Qp rx m1 u1 fun v H2 p M2 t2 m2 rv q => k v H2 p M2 (t1.trans t2) m2 rv q⟩
theorem pcmp {op : CmpOp} (ho : OpP X (compareOp op) r) (ha : PEp X H0 a ta) (hb : PEp X H0 b tb) (hm : behindInMarks op b = false) : PEp X H0 (.Compare a [op] [b] pos) (tOp r ta tb) := by
  obtain ⟨r0, h1, h2⟩ := ho
  exact peW (pe_cmpR h1 ha hb hm) fun σ H Q h => op_conc h2 h
/-! ### tests -/
@[reducible] def tB (t : TEp) : TTp := fun σ M Q => t σ M fun x M1 => match x with | .bl c => Q c M1 | _ => False
theorem tB_conc {K : Kf} {te : TEp} {σ : L2.St} {H : Hp} {Q : Bool → Hp → Prop} (h : concT K H0 (tB te) σ H Q) : concE K H0 te σ H fun x H' => ∃ k, x = .bl k ∧ Q k H' := by
  obtain ⟨σp, M, Qp, t, s, m, u, k⟩ := h
  refine ⟨σp, M, _, t, s, m, u, fun x H1 px M1 t1 m1 rx u1 => ?_⟩
  cases rx with
  | bl c => exact ⟨c, rfl, k c H1 M1 t1 m1 u1⟩
  | _ => exact u1.elim
theorem op_conc' {K : Kf} {r0 : R2} (hs : SimR K r0 r) {σ : L2.St} {H : Hp} {Q : Bool → Hp → Prop} (h : concT K H0 (tB (tOp r ta tb)) σ H Q) : tTest (L2.tOp r0 (concE K H0 ta) (concE K H0 tb)) σ H Q := by
  have h2 := tB_conc h
  exact op_conc hs h2
theorem ptcmp {op : CmpOp} (ho : OpP X (compareOp op) r) (ha : PEp X H0 a ta) (hb : PEp X H0 b tb) (hm : behindInMarks op b = false) : PTp X H0 (.Compare a [op] [b] pos) (tB (tOp r ta tb)) := by
  obtain ⟨r0, h1, h2⟩ := ho
  exact ptW (pt_cmpR h1 ha hb hm) fun σ H Q h => op_conc' h2 h
theorem ptval {e : Expr} {te : TEp} (h : PEp X H0 e te) (he : ∀ whole, isTrue e X.env whole = (do let v ← whole; standAt e.pos; holding [v] (truthy v)) := by intro _; rfl) : PTp X H0 e (tB te) :=
  ptW (pt_val h he) fun σ H Q h => tB_conc h
/-- two ways -/
@[irreducible] def br (b : Bool) (A B : Prop) : Prop := if b = true then A else B
theorem br_of {b : Bool} {A B : Prop} (h1 : b = true → A) (h2 : b = false → B) : br b A B := by
  unfold br; cases b
  · rw [if_neg Bool.false_ne_true]; exact h2 rfl
  · rw [if_pos rfl]; exact h1 rfl
theorem br_t {b : Bool} {A B : Prop} (h : b = true) (h1 : A) : br b A B := br_of (fun _ => h1) fun e => by rw [h] at e; cases e
theorem br_f {b : Bool} {A B : Prop} (h : b = false) (h1 : B) : br b A B := br_of (fun e => by rw [h] at e; cases e) fun _ => h1
theorem br_tt {A B : Prop} (h : A) : br true A B := br_t rfl h
theorem br_ff {A B : Prop} (h : B) : br false A B := br_f rfl h
theorem br_nt {A B : Prop} (h : B) : br (!true) A B := br_f rfl h
theorem br_nf {A B : Prop} (h : A) : br (!false) A B := br_t rfl h
theorem br_dec {c A B : Prop} [Decidable c] (h1 : c → A) (h2 : ¬ c → B) : br (decide c) A B := br_of (fun e => h1 (of_decide_eq_true e)) fun e => h2 (of_decide_eq_false e)
theorem br_ndec {c A B : Prop} [Decidable c] (h1 : ¬ c → A) (h2 : c → B) : br (!decide c) A B := br_of (fun e => h1 (by simpa using e)) fun e => h2 (by simpa using e)
theorem br_ite {b : Bool} {A B : Prop} (h : br b A B) : if b = true then A else B := by unfold br at h; exact h
theorem br_imp {b : Bool} {A B A' B' : Prop} (h : br b A B) (h1 : A → A') (h2 : B → B') : if b = true then A' else B' := by
  unfold br at h; cases b
  · rw [if_neg Bool.false_ne_true] at h ⊢; exact h2 h
  · rw [if_pos rfl] at h ⊢; exact h1 h
@[reducible] def tAnd (t u : TTp) : TTp := fun σ M Q => t σ M fun c M1 => br c (u σ M1 Q) (Q false M1)
@[reducible] def tOr (t u : TTp) : TTp := fun σ M Q => t σ M fun c M1 => br c (Q true M1) (u σ M1 Q)
@[reducible] def tNot (t : TTp) : TTp := fun σ M Q => t σ M fun c M1 => Q (!c) M1
variable {tt uu : TTp} {rest : List Expr}
theorem pwand1 (ha : PTp X H0 a tt) : PWp X H0 (.BoolOp .And [a] pos) tt := pw_and1 ha
theorem pwor1 (ha : PTp X H0 a tt) : PWp X H0 (.BoolOp .Or [a] pos) tt := pw_or1 ha
theorem pwand (ha : PTp X H0 a tt) (hb : PWp X H0 (.BoolOp .And (b :: rest) pos) uu) : PWp X H0 (.BoolOp .And (a :: b :: rest) pos) (tAnd tt uu) :=
  pwW (pw_and ha hb) fun σ H Q ⟨σp, M, Qp, t, s, m, u, k⟩ => ⟨σp, M, _, t, s, m, u, fun c H1 M1 t1 m1 u1 => br_imp u1 (fun q => ⟨σp, M1, Qp, t.trans t1, s.mono t1, m1, q, fun d H2 M2 t2 => k d H2 M2 (t1.trans t2)⟩) fun q => k false H1 M1 t1 m1 q⟩
theorem pwor (ha : PTp X H0 a tt) (hb : PWp X H0 (.BoolOp .Or (b :: rest) pos) uu) : PWp X H0 (.BoolOp .Or (a :: b :: rest) pos) (tOr tt uu) :=
  pwW (pw_or ha hb) fun σ H Q ⟨σp, M, Qp, t, s, m, u, k⟩ => ⟨σp, M, _, t, s, m, u, fun c H1 M1 t1 m1 u1 => br_imp u1 (fun q => k true H1 M1 t1 m1 q) fun q => ⟨σp, M1, Qp, t.trans t1, s.mono t1, m1, q, fun d H2 M2 t2 => k d H2 M2 (t1.trans t2)⟩⟩
theorem ptnot (ha : PTp X H0 a tt) : PTp X H0 (.UnaryOp .Not a pos) (tNot tt) :=
  ptW (pt_not ha) fun σ H Q ⟨σp, M, Qp, t, s, m, u, k⟩ => ⟨σp, M, _, t, s, m, u, fun c H1 M1 t1 m1 u1 => k (!c) H1 M1 t1 m1 u1⟩
/-! ### and, or, not as values of truth -/
@[reducible] def tAndV (ta tb : TEp) : TEp := fun σ M Q => ta σ M fun x M1 => match x with | .bl c => br c (tb σ M1 Q) (Q (.bl false) M1) | _ => False
@[reducible] def tOrV (ta tb : TEp) : TEp := fun σ M Q => ta σ M fun x M1 => match x with | .bl c => br c (Q (.bl true) M1) (tb σ M1 Q) | _ => False
@[reducible] def tNotV (ta : TEp) : TEp := fun σ M Q => ta σ M fun x M1 => match x with | .bl c => Q (.bl (!c)) M1 | _ => False
theorem pone {op} (h : PEp X H0 a ta) : PEp X H0 (.BoolOp op [a] pos) ta := pe_one h
theorem pand (ha : PEp X H0 a ta) (hb : PEp X H0 (.BoolOp .And (b :: rest) pos) tb) : PEp X H0 (.BoolOp .And (a :: b :: rest) pos) (tAndV ta tb) :=
  peW (pe_and ha hb) fun σ H Q ⟨σp, M, Qp, t, s, m, u, k⟩ => ⟨σp, M, _, t, s, m, u, fun x H1 px M1 t1 m1 rx u1 => by
    cases rx with
    | bl c => exact ⟨c, rfl, br_imp u1 (fun q => ⟨σp, M1, Qp, t.trans t1, s.mono t1, m1, q, fun v H2 p M2 t2 => k v H2 p M2 (t1.trans t2)⟩) fun q => k _ H1 _ M1 t1 m1 (.bl false) q⟩
    | _ => exact u1.elim⟩
theorem por (ha : PEp X H0 a ta) (hb : PEp X H0 (.BoolOp .Or (b :: rest) pos) tb) : PEp X H0 (.BoolOp .Or (a :: b :: rest) pos) (tOrV ta tb) :=
  peW (pe_or ha hb) fun σ H Q ⟨σp, M, Qp, t, s, m, u, k⟩ => ⟨σp, M, _, t, s, m, u, fun x H1 px M1 t1 m1 rx u1 => by
    cases rx with
    | bl c => exact ⟨c, rfl, br_imp u1 (fun q => k _ H1 _ M1 t1 m1 (.bl true) q) fun q => ⟨σp, M1, Qp, t.trans t1, s.mono t1, m1, q, fun v H2 p M2 t2 => k v H2 p M2 (t1.trans t2)⟩⟩
    | _ => exact u1.elim⟩
theorem pnot (ha : PEp X H0 a ta) : PEp X H0 (.UnaryOp .Not a pos) (tNotV ta) :=
  peW (pe_not ha) fun σ H Q ⟨σp, M, Qp, t, s, m, u, k⟩ => ⟨σp, M, _, t, s, m, u, fun x H1 px M1 t1 m1 rx u1 => by
    cases rx with
    | bl c => exact ⟨c, rfl, k _ H1 _ M1 t1 m1 (.bl (!c)) u1⟩
    | _ => exact u1.elim⟩
@[reducible] def tIf (t : TTp) (ta tb : TEp) : TEp := fun σ M Q => t σ M fun c M1 => br c (ta σ M1 Q) (tb σ M1 Q)
theorem pifx {c : Expr} (hc : PTp X H0 c tt) (ha : PEp X H0 a ta) (hb : PEp X H0 b tb) : PEp X H0 (.IfExp c a b pos) (tIf tt ta tb) :=
  peW (pe_ifExp hc ha hb) fun σ H Q ⟨σp, M, Qp, t, s, m, u, k⟩ => ⟨σp, M, _, t, s, m, u, fun c H1 M1 t1 m1 u1 => br_imp u1
    (fun q => ⟨σp, M1, Qp, t.trans t1, s.mono t1, m1, q, fun v H2 p M2 t2 => k v H2 p M2 (t1.trans t2)⟩) fun q => ⟨σp, M1, Qp, t.trans t1, s.mono t1, m1, q, fun v H2 p M2 t2 => k v H2 p M2 (t1.trans t2)⟩⟩
/-- a < b < c -/
@[reducible] def tChain (r r' : R2p) (ta tb tc : TEp) : TEp := fun σ M Q => ta σ M fun x M1 => tb σ M1 fun y M2 => r x y M2 fun z M3 => match z with | .bl k => br k (tc σ M3 fun w M4 => r' y w M4 Q) (Q (.bl false) M3) | _ => False
end
end PL

set_option Elab.async false
set_option linter.all false
set_option maxRecDepth 100000
set_option maxHeartbeats 2000000
/-! PL2: operators on values, calls of built-ins, subscripts. -/
namespace PL
open PySem L2
section
variable {X : Cx} {H0 : Hp} {pos : Pos} {K : Kf}

abbrev Kont (K : Kf) (H : Hp) (Q : VK) (Qp : PVK) : Prop := ∀ v H' p M', Tk K H H' → RelM K H' M' → Rep K H' p v → Qp p M' → Q v H'
/-- a new list, a new tuple -/
theorem new_lst {H : Hp} {M : PHp} {p : Addr} {l : List PV} {vs : List V} {Q : VK} {Qp : PVK} (m : RelM K H M) (hp : H p = none) (r : Reps K H l vs)
    (u : ∀ p, M p = none → Qp (.ref p) (updM M p (.lst l))) (k : Kont K H Q Qp) : Q (.ref p) (upd H p (.lst vs)) := by
  have t : Tk K H (upd H p (.lst vs)) := .new hp
  exact k _ _ _ _ t (m.put (m := .lst l) t ⟨vs, upd_same, r.mono t⟩) (.ref p) (u p (m.fresh hp))
theorem new_tup {H : Hp} {M : PHp} {l : List PV} {vs : List V} {Q : VK} {Qp : PVK} (m : RelM K H M) (r : Reps K H l vs)
    (u : Qp (.tup l) M) (k : Kont K H Q Qp) : NewT H vs Q := fun p ob hp hd => by
  have t : Tk K H (upd H p (.frz ob (.tup vs))) := .new hp
  exact k _ _ _ _ t (m.new hp) (.tup (.inl ⟨ob, upd_same, hd⟩) (r.mono t)) u
theorem old_tup {H : Hp} {M : PHp} {p : Addr} {l : List PV} {vs : List V} {Q : VK} {Qp : PVK} (m : RelM K H M) (h : SqX K H p vs) (r : Reps K H l vs)
    (u : Qp (.tup l) M) (k : Kont K H Q Qp) : Q (.ref p) H := k _ _ _ _ (Tk.refl _ _) m (.tup h r) u

/-! ### + - * // % ** -/
def addP : R2p := fun x y M Q => match x, y with
  | .int i, .int j => Q (.int (i + j)) M
  | .str a, .str b => a.length + b.length ≤ sizeLine ∧ Q (.str (a ++ b)) M
  | .tup a, .tup b => a.length + b.length ≤ sizeLine ∧ Q (.tup (a ++ b)) M
  | .ref a, .ref b => ∃ xs ys, M a = some (.lst xs) ∧ M b = some (.lst ys) ∧ xs.length + ys.length ≤ sizeLine ∧ ∀ p, M p = none → Q (.ref p) (updM M p (.lst (xs ++ ys)))
  | _, _ => False
theorem opAdd : OpP X (binaryOp .Add) addP := by
  refine ⟨_, op_add.or (op_add_str.or (op_catX.or op_cat)), fun x y H px py M Q Qp rx ry m u k => ?_⟩
  cases rx with
  | int i => cases ry with
    | int j => exact .inl ⟨i, j, rfl, rfl, k _ _ _ _ (Tk.refl _ _) m (.int _) u⟩
    | _ => exact u.elim
  | str i => cases ry with
    | str j => exact .inr (.inl ⟨i, j, rfl, rfl, u.1, k _ _ _ _ (Tk.refl _ _) m (.str _) u.2⟩)
    | _ => exact u.elim
  | tup h r => cases ry with
    | tup h' r' =>
      refine .inr (.inr (.inl ⟨_, _, _, _, rfl, rfl, h, h', by rw [← r.length, ← r'.length]; exact u.1, fun e => ?_, fun _ e => ?_, fun _ _ => new_tup m (r.append r') u.2 k⟩))
      · subst e; cases r; exact old_tup m h' r' u.2 k
      · subst e; cases r'; refine old_tup m h r ?_ k
        have := u.2; rwa [List.append_nil] at this
    | _ => exact u.elim
  | ref a => cases ry with
    | ref b =>
      obtain ⟨xs, ys, h1, h2, h3, h4⟩ := u
      obtain ⟨vs, e1, r1⟩ := m _ _ h1
      obtain ⟨ws, e2, r2⟩ := m _ _ h2
      exact .inr (.inr (.inr ⟨_, _, _, _, rfl, rfl, e1, e2, by rw [← r1.length, ← r2.length]; exact h3, fun p hp => new_lst m hp (r1.append r2) h4 k⟩))
    | _ => exact u.elim
  | _ => exact u.elim
def subP : R2p := fun x y M Q => match x, y with
  | .int i, .int j => Q (.int (i - j)) M
  | _, _ => False
theorem opSub : OpP X (binaryOp .Sub) subP := by
  refine ⟨_, op_sub, fun x y H px py M Q Qp rx ry m u k => ?_⟩
  cases rx with
  | int i => cases ry with
    | int j => exact ⟨i, j, rfl, rfl, k _ _ _ _ (Tk.refl _ _) m (.int _) u⟩
    | _ => exact u.elim
  | _ => exact u.elim
/-- the size of an int in bits is at most n -/
def Bt (i : Int) (n : Nat) : Prop := Builtin.Int.intBits i ≤ n
def mulP : R2p := fun x y M Q => match x, y with
  | .int i, .int j => IntMulOk i j ∧ Q (.int (i * j)) M
  | .tup l, .int k => l ≠ [] ∧ 1 ≤ k ∧ k ≤ 1000 ∧ l.length ≤ 1000 ∧ Q (.tup (List.replicate k.toNat l).flatten) M
  | .ref a, .int k => ∃ xs, M a = some (.lst xs) ∧ -(2 ^ 63) ≤ k ∧ k < 2 ^ 63 ∧ xs.length * k.toNat ≤ sizeLine ∧ ∀ p, M p = none → Q (.ref p) (updM M p (.lst (List.replicate k.toNat xs).flatten))
  | _, _ => False
theorem op_mulG : OpR X (binaryOp .Mult) (rI IntMulOk fun i j => .int (i * j)) := opI fun _ _ _ _ _ _ _ hc q => PyProof.Rows.mul_int q hc
theorem Reps.rep {H : Hp} {ps : List PV} {vs : List V} (r : Reps K H ps vs) : ∀ k : Nat, Reps K H (List.replicate k ps).flatten (List.replicate k vs).flatten
  | 0 => .nil
  | k + 1 => by
    simp only [List.replicate_succ, List.flatten_cons]
    exact r.append (Reps.rep r k)
theorem opMul : OpP X (binaryOp .Mult) mulP := by
  refine ⟨_, op_mulG.or ((op_repX.or op_rep1).or op_rep), fun x y H px py M Q Qp rx ry m u k => ?_⟩
  cases rx with
  | int i => cases ry with
    | int j => exact .inl ⟨i, j, rfl, rfl, u.1, k _ _ _ _ (Tk.refl _ _) m (.int _) u.2⟩
    | _ => exact u.elim
  | tup h r => cases ry with
    | int j =>
      obtain ⟨u1, u2, u3, u4, u5⟩ := u
      by_cases one : j = 1
      · subst one
        refine .inr (.inl (.inr ⟨_, _, rfl, rfl, h, old_tup m h r ?_ k⟩))
        have e : (List.replicate (1 : Int).toNat ‹List PV›).flatten = ‹List PV› := by show (List.replicate 1 _).flatten = _; simp
        rw [e] at u5; exact u5
      · exact .inr (.inl (.inl ⟨_, _, _, rfl, rfl, h, fun e => u1 (r.nil_iff.mpr e), by omega, u3, by rw [← r.length]; exact u4, new_tup m (r.rep _) u5 k⟩))
    | _ => exact u.elim
  | ref a => cases ry with
    | int j =>
      obtain ⟨xs, h1, u2, u3, u4, u5⟩ := u
      obtain ⟨vs, e1, r1⟩ := m _ _ h1
      exact .inr (.inr ⟨_, _, _, rfl, rfl, e1, u2, u3, by rw [← r1.length]; exact u4, fun p hp => new_lst m hp (r1.rep _) u5 k⟩)
    | _ => exact u.elim
  | _ => exact u.elim
def modP : R2p := fun x y M Q => match x, y with
  | .int i, .int j => j ≠ 0 ∧ Q (.int (i.fmod j)) M
  | _, _ => False
theorem opMod : OpP X (binaryOp .Mod) modP := by
  refine ⟨_, op_modN, fun x y H px py M Q Qp rx ry m u k => ?_⟩
  cases rx with
  | int i => cases ry with
    | int j => exact ⟨i, j, rfl, rfl, u.1, k _ _ _ _ (Tk.refl _ _) m (.int _) u.2⟩
    | _ => exact u.elim
  | _ => exact u.elim
/-- what // of great ints wants of the whole run -/
structure Sure (P : Program) (base : Heap) : Prop where
  seer : base.NoSeer
  tree : P.given.tree = none
def StackOk (X : Cx) : Prop := ∃ env l, X.stack = env :: l ∧ env.scope.isGenerator = false ∧ env.scope.isCoroutine = false ∧ env.builtins = builtinsNs ∧ env.globals = mainGlobals
def fdivP : R2p := fun x y M Q => match x, y with
  | .int i, .int j => j ≠ 0 ∧ Q (.int (i.fdiv j)) M
  | _, _ => False
theorem pylong_ok {pins : List (Addr × Obj)} {σ : L2.St} {H : Hp} {s : Shared} (I : Inv X pins σ H s) (S : Sure X.prog X.base) (hr : Room 33 X.A) (hst : StackOk X) : PySem.PylongRoom (model X.prog X.w) X.A s := by
  obtain ⟨env, l, e1, e2, e3, e4, e5⟩ := hst
  refine PySem.PylongRoom.of I.nolimit ?_ (PySem.SeerAt.of (env := env) (l := l) (S.seer.keeps I.bk) S.tree (by rw [I.ok.frames, e1]) e2 e3 e4 e5)
  have := hr.dp
  show X.A.depth + 100 < recursionLimit
  omega
theorem op_fdivG (S : Sure X.prog X.base) (hr : Room 33 X.A) (hst : StackOk X) : OpR X (binaryOp .FloorDiv) (rI (fun _ j => j ≠ 0) fun i j => .int (i.fdiv j)) := by
  intro held s σ H x y v u Q I rx ry hh
  obtain ⟨i, j, rfl, rfl, hj, q⟩ := hh
  obtain ⟨t, rfl⟩ := rx
  obtain ⟨t', rfl⟩ := ry
  exact PyProof.Rows.floordiv_int hj ⟨.int _, H, I.tok _, ⟨_, rfl⟩, q⟩ (.inr (pylong_ok I S hr hst))
theorem opFdiv (S : Sure X.prog X.base) (hr : Room 33 X.A) (hst : StackOk X := by exact ⟨_, _, rfl, rfl, rfl, rfl, rfl⟩) : OpP X (binaryOp .FloorDiv) fdivP := by
  refine ⟨_, op_fdivG S hr hst, fun x y H px py M Q Qp rx ry m u k => ?_⟩
  cases rx with
  | int i => cases ry with
    | int j => exact ⟨i, j, rfl, rfl, u.1, k _ _ _ _ (Tk.refl _ _) m (.int _) u.2⟩
    | _ => exact u.elim
  | _ => exact u.elim
def powP : R2p := fun x y M Q => match x, y with
  | .int i, .int j => (0 ≤ j ∧ j ≤ 1000000 ∧ i.natAbs < 2 ^ 64) ∧ Q (.int (i ^ j.toNat)) M
  | _, _ => False
theorem opPow : OpP X (binaryOp .Pow) powP := by
  refine ⟨_, op_pow, fun x y H px py M Q Qp rx ry m u k => ?_⟩
  cases rx with
  | int i => cases ry with
    | int j => exact ⟨i, j, rfl, rfl, u.1, k _ _ _ _ (Tk.refl _ _) m (.int _) u.2⟩
    | _ => exact u.elim
  | _ => exact u.elim
def negP : R1p := fun x M Q => match x with
  | .int i => Q (.int (-i)) M
  | _ => False
theorem unNeg : UnP X (unaryOp .USub) negP := by
  refine ⟨_, un_neg, fun x H px M Q Qp rx m u k => ?_⟩
  cases rx with
  | int i => exact ⟨i, rfl, k _ _ _ _ (Tk.refl _ _) m (.int _) u⟩
  | _ => exact u.elim

/-! ### comparisons -/
def icmp (f : Int → Int → Bool) : R2p := fun x y M Q => match x, y with
  | .int i, .int j => Q (.bl (f i j)) M
  | _, _ => False
theorem op_icmp {op : CmpOp} {f : Int → Int → Bool} (h : OpR X (compareOp op) (rI0 fun i j => .bl (f i j))) : OpP X (compareOp op) (icmp f) := by
  refine ⟨_, h, fun x y H px py M Q Qp rx ry m u k => ?_⟩
  cases rx with
  | int i => cases ry with
    | int j => exact ⟨i, j, rfl, rfl, k _ _ _ _ (Tk.refl _ _) m (.bl _) u⟩
    | _ => exact u.elim
  | _ => exact u.elim
abbrev leP : R2p := icmp fun i j => decide (i ≤ j)
def gtP : R2p := fun x y M Q => match x, y with
  | .int i, .int j => Q (.bl (decide (j < i))) M
  | .str a, .str b => Q (.bl (decide (b.cps.toList < a.cps.toList))) M
  | _, _ => False
abbrev geP : R2p := icmp fun i j => decide (j ≤ i)
theorem opLe : OpP X (compareOp .LtE) leP := op_icmp op_le
theorem opGt : OpP X (compareOp .Gt) gtP := by
  refine ⟨_, op_gt.or op_gt_str, fun x y H px py M Q Qp rx ry m u k => ?_⟩
  cases rx with
  | int i => cases ry with
    | int j => exact .inl ⟨i, j, rfl, rfl, k _ _ _ _ (Tk.refl _ _) m (.bl _) u⟩
    | _ => exact u.elim
  | str i => cases ry with
    | str j => exact .inr ⟨i, j, rfl, rfl, k _ _ _ _ (Tk.refl _ _) m (.bl _) u⟩
    | _ => exact u.elim
  | _ => exact u.elim
theorem opGe : OpP X (compareOp .GtE) geP := op_icmp op_ge
/-- a < b: ints, texts -/
def ltP : R2p := fun x y M Q => match x, y with
  | .int i, .int j => Q (.bl (decide (i < j))) M
  | .str a, .str b => Q (.bl (decide (a.cps.toList < b.cps.toList))) M
  | .tup a, .tup b => ∃ ns ms, a = ns.map PV.int ∧ b = ms.map PV.int ∧ Q (.bl (HT.lexLt ns ms)) M
  | _, _ => False
theorem opLt (hu : X.A.units < cLine) : OpP X (compareOp .Lt) ltP := by
  refine ⟨_, op_lt.or (op_lt_str.or (op_ltT hu)), fun x y H px py M Q Qp rx ry m u k => ?_⟩
  cases rx with
  | int i => cases ry with
    | int j => exact .inl ⟨i, j, rfl, rfl, k _ _ _ _ (Tk.refl _ _) m (.bl _) u⟩
    | _ => exact u.elim
  | str i => cases ry with
    | str j => exact .inr (.inl ⟨i, j, rfl, rfl, k _ _ _ _ (Tk.refl _ _) m (.bl _) u⟩)
    | _ => exact u.elim
  | tup h r => cases ry with
    | tup h' r' =>
      obtain ⟨ns, ms, rfl, rfl, q⟩ := u
      have e1 := r.ints; have e2 := r'.ints
      subst e1; subst e2
      exact .inr (.inr ⟨_, _, ns, ms, rfl, rfl, h.t, h'.t, k _ _ _ _ (Tk.refl _ _) m (.bl _) q⟩)
    | _ => exact u.elim
  | _ => exact u.elim
/-! == by content -/
mutual
inductive DpP (K : Kf) (M : PHp) : PV → PyData → Prop
  | non : DpP K M .non .none
  | bl (b) : DpP K M (.bl b) (.bool b)
  | int (b) : DpP K M (.int b) (.int b)
  | str (b) : DpP K M (.str b) (.str b)
  | tup {l ds} : DpsP K M l ds → DpP K M (.tup l) (.tuple ds)
  | lst {a l ds} : rdL K M a l → DpsP K M l ds → DpP K M (.ref a) (.list ds)
inductive DpsP (K : Kf) (M : PHp) : List PV → List PyData → Prop
  | nil : DpsP K M [] []
  | cons {p d ps ds} : DpP K M p d → DpsP K M ps ds → DpsP K M (p :: ps) (d :: ds)
end
mutual
theorem DpP.to {H : Hp} {M : PHp} (m : RelM K H M) : ∀ {p d v}, DpP K M p d → Rep K H p v → Dp K H v d
  | _, _, _, .non, .non => .non
  | _, _, _, .bl b, .bl _ => .bl b
  | _, _, _, .int b, .int _ => .int b
  | _, _, _, .str b, .str _ => .str b
  | _, _, _, .tup h, .tup a r => .tup a.t (DpsP.to m h r)
  | _, _, _, .lst h q, .ref _ => let ⟨_, e, r⟩ := h.to m; .lst e (DpsP.to m q r)
theorem DpsP.to {H : Hp} {M : PHp} (m : RelM K H M) : ∀ {p d v}, DpsP K M p d → Reps K H p v → DpAll K H v d
  | _, _, _, .nil, .nil => .nil
  | _, _, _, .cons h q, .cons r s => .cons (DpP.to m h r) (DpsP.to m q s)
end
/-- data without dicts, not deep -/
abbrev flatD (d : PyData) : Prop := d.plain = true ∧ d.depth ≤ 64
theorem flat_of {d : PyData} (h : SeqAt.shaped d = true) : flatD d := ⟨PyData.plain_of_canLay0 d (SeqAt.canLay_of_shaped h), SeqAt.depth_of_shaped h⟩
@[irreducible] def eqD (K : Kf) (x y : PV) (M : PHp) (Q : Bool → Prop) : Prop := ∃ d e, DpP K M x d ∧ DpP K M y e ∧ flatD d ∧ flatD e ∧ Q (PyData.eqv d e)
theorem eqD_of {x y : PV} {M : PHp} {Q : Bool → Prop} {d e : PyData} (h1 : DpP K M x d) (h2 : DpP K M y e) (h3 : SeqAt.shaped d = true) (h4 : SeqAt.shaped e = true) (q : Q (PyData.eqv d e)) : eqD K x y M Q := by
  unfold eqD; exact ⟨d, e, h1, h2, flat_of h3, flat_of h4, q⟩
theorem eqD_fl {x y : PV} {M : PHp} {Q : Bool → Prop} {d e : PyData} (h1 : DpP K M x d) (h2 : DpP K M y e) (h3 : flatD d) (h4 : flatD e) (q : Q (PyData.eqv d e)) : eqD K x y M Q := by
  unfold eqD; exact ⟨d, e, h1, h2, h3, h4, q⟩
theorem eqD_to {x y : PV} {M : PHp} {Q : Bool → Prop} (h : eqD K x y M Q) : ∃ d e, DpP K M x d ∧ DpP K M y e ∧ flatD d ∧ flatD e ∧ Q (PyData.eqv d e) := by
  unfold eqD at h; exact h
def rEqF (K : Kf) : R2 := fun x y H Q => ∃ d e, Dp K H x d ∧ Dp K H y e ∧ flatD d ∧ flatD e ∧ Q (.bl (PyData.eqv d e)) H
def rNeF (K : Kf) : R2 := fun x y H Q => ∃ d e, Dp K H x d ∧ Dp K H y e ∧ flatD d ∧ flatD e ∧ Q (.bl (!PyData.eqv d e)) H
theorem room64 {n a b : Nat} (h : n + 64 < cLine) (ha : a ≤ 64) : n + min a b < cLine := by
  have := Nat.min_le_left a b
  omega
theorem op_eqF (hu : X.A.units + 64 < cLine) : OpR X (compareOp .Eq) (rEqF X.K) := by
  intro pins s σ H x y v u Q I rx ry h
  obtain ⟨d, e, hd, he, sd, se, q⟩ := h
  obtain ⟨as, r1⟩ := Dp.reads I d x v hd rx
  obtain ⟨bs, r2⟩ := Dp.reads I e y u he ry
  exact SeqAt.eq_plain r1 r2 sd.1 se.1 (room64 hu sd.2) ⟨.bl _, H, I, rfl, q⟩
theorem op_neF (hu : X.A.units + 64 < cLine) : OpR X (compareOp .NotEq) (rNeF X.K) := by
  intro pins s σ H x y v u Q I rx ry h
  obtain ⟨d, e, hd, he, sd, se, q⟩ := h
  obtain ⟨as, r1⟩ := Dp.reads I d x v hd rx
  obtain ⟨bs, r2⟩ := Dp.reads I e y u he ry
  exact SeqAt.ne_plain r1 r2 sd.1 se.1 (room64 hu sd.2) ⟨.bl _, H, I, rfl, q⟩
/-- of one kind, plainly -/
def eqP (K : Kf) : R2p := fun x y M Q => match x, y with
  | .int i, .int j => Q (.bl (decide (i = j))) M
  | .str i, .str j => Q (.bl (decide (i = j))) M
  | .bl i, .bl j => Q (.bl (decide (i = j))) M
  | x, y => eqD K x y M fun b => Q (.bl b) M
def neP (K : Kf) : R2p := fun x y M Q => match x, y with
  | .int i, .int j => Q (.bl (!decide (i = j))) M
  | .str i, .str j => Q (.bl (!decide (i = j))) M
  | .bl i, .bl j => Q (.bl (!decide (i = j))) M
  | x, y => eqD K x y M fun b => Q (.bl (!b)) M
theorem dV_int {i j : Int} : decide (V.int i = V.int j) = decide (i = j) := by by_cases h : i = j <;> simp [h]
theorem dV_str {i j : Str} : decide (V.str i = V.str j) = decide (i = j) := by by_cases h : i = j <;> simp [h]
theorem dV_bl {i j : Bool} : decide (V.bl i = V.bl j) = decide (i = j) := by by_cases h : i = j <;> simp [h]
theorem opEq (hu : X.A.units + 64 < cLine) : OpP X (compareOp .Eq) (eqP X.K) := by
  refine ⟨_, op_eq.or (op_eqF hu), fun x y H px py M Q Qp rx ry m u k => ?_⟩
  have deep : eqD X.K px py M (fun b => Qp (.bl b) M) → rEq x y H Q ∨ rEqF X.K x y H Q := fun h => let ⟨d, e, h1, h2, h3, h4, q⟩ := eqD_to h; .inr ⟨d, e, h1.to m rx, h2.to m ry, h3, h4, k _ _ _ _ (Tk.refl _ _) m (.bl _) q⟩
  cases rx with
  | int i => cases ry with
    | int j => exact .inl ⟨rfl, by rw [dV_int]; exact k _ _ _ _ (Tk.refl _ _) m (.bl _) u⟩
    | _ => exact deep u
  | str i => cases ry with
    | str j => exact .inl ⟨rfl, by rw [dV_str]; exact k _ _ _ _ (Tk.refl _ _) m (.bl _) u⟩
    | _ => exact deep u
  | bl i => cases ry with
    | bl j => exact .inl ⟨rfl, by rw [dV_bl]; exact k _ _ _ _ (Tk.refl _ _) m (.bl _) u⟩
    | _ => exact deep u
  | _ => exact deep u
theorem opNe (hu : X.A.units + 64 < cLine) : OpP X (compareOp .NotEq) (neP X.K) := by
  refine ⟨_, op_ne.or (op_neF hu), fun x y H px py M Q Qp rx ry m u k => ?_⟩
  have deep : eqD X.K px py M (fun b => Qp (.bl (!b)) M) → rNe x y H Q ∨ rNeF X.K x y H Q := fun h => let ⟨d, e, h1, h2, h3, h4, q⟩ := eqD_to h; .inr ⟨d, e, h1.to m rx, h2.to m ry, h3, h4, k _ _ _ _ (Tk.refl _ _) m (.bl _) q⟩
  cases rx with
  | int i => cases ry with
    | int j => exact .inl ⟨rfl, by rw [dV_int]; exact k _ _ _ _ (Tk.refl _ _) m (.bl _) u⟩
    | _ => exact deep u
  | str i => cases ry with
    | str j => exact .inl ⟨rfl, by rw [dV_str]; exact k _ _ _ _ (Tk.refl _ _) m (.bl _) u⟩
    | _ => exact deep u
  | bl i => cases ry with
    | bl j => exact .inl ⟨rfl, by rw [dV_bl]; exact k _ _ _ _ (Tk.refl _ _) m (.bl _) u⟩
    | _ => exact deep u
  | _ => exact deep u
/-- is None -/
def isNP : R2p := fun x y M Q => match y with
  | .non => (match x with | .non => Q (.bl true) M | _ => Q (.bl false) M)
  | _ => False
def notNP : R2p := fun x y M Q => match y with
  | .non => (match x with | .non => Q (.bl false) M | _ => Q (.bl true) M)
  | _ => False
theorem opIsN : OpP X (compareOp .Is) isNP := by
  refine ⟨_, op_isN, fun x y H px py M Q Qp rx ry m u k => ?_⟩
  cases ry with
  | non => cases rx <;> exact ⟨rfl, k _ _ _ _ (Tk.refl _ _) m (.bl _) u⟩
  | _ => exact u.elim
theorem opNotN : OpP X (compareOp .IsNot) notNP := by
  refine ⟨_, op_notN, fun x y H px py M Q Qp rx ry m u k => ?_⟩
  cases ry with
  | non => cases rx <;> exact ⟨rfl, k _ _ _ _ (Tk.refl _ _) m (.bl _) u⟩
  | _ => exact u.elim

/-! ### x in xs -/
def flatP : PV → Bool
  | .non | .bl _ | .int _ | .str _ => true
  | _ => false
def flEq : PV → PV → Bool
  | .int i, .int j => decide (i = j)
  | .str i, .str j => decide (i = j)
  | .bl i, .bl j => decide (i = j)
  | .non, .non => true
  | .int i, .bl b => i == (if b then 1 else 0)
  | .bl b, .int i => (if b then 1 else 0) == i
  | _, _ => false
end
end PL

set_option Elab.async false
set_option linter.all false
set_option maxRecDepth 100000
set_option maxHeartbeats 2000000
/-! PL3: arguments, displays, calls, subscripts, statements, defs. -/
namespace PL
open PySem L2
theorem szl {n : Nat} (h : Nat.ble n 1000 = true) : n ≤ sizeLine := Nat.le_trans (Nat.le_of_ble_eq_true h) (by rw [sizeLine_eq]; decide)
section
variable {X : Cx} {H0 : Hp} {pos : Pos} {K : Kf}
/-! ### arguments, displays -/
@[reducible] def tNil : TAp := fun _ M Q => Q [] M
@[reducible] def tCons (ta : TEp) (tr : TAp) : TAp := fun σ M Q => ta σ M fun x M1 => tr σ M1 fun xs M2 => Q (x :: xs) M2
variable {e : Expr} {es : List Expr} {te : TEp} {ta : TAp}
theorem panil : PAp X H0 [] tNil := paW pa_nil fun σ H Q ⟨_, M, _, _, _, m, u, k⟩ => k [] H [] M (Tk.refl _ _) m .nil u
theorem pacons (ha : PEp X H0 e te) (hr : PAp X H0 es ta) (hs : starEach (e :: es) X.env = (false, eval e X.env) :: starEach es X.env := by rfl) : PAp X H0 (e :: es) (tCons te ta) :=
  paW (pa_cons ha hr hs) fun σ H Q ⟨σp, M, Qp, t, s, m, u, k⟩ => ⟨σp, M, _, t, s, m, u, fun x H1 px M1 t1 m1 rx u1 =>
    ⟨σp, M1, _, t.trans t1, s.mono t1, m1, u1, fun xs H2 ps M2 t2 m2 rs u2 => k _ H2 _ M2 (t1.trans t2) m2 (.cons (rx.mono t2) rs) u2⟩⟩
@[reducible] def tTup (ta : TAp) : TEp := fun σ M Q => ta σ M fun xs M1 => xs.length ≤ sizeLine ∧ Q (.tup xs) M1
@[reducible] def tLst (ta : TAp) : TEp := fun σ M Q => ta σ M fun xs M1 => xs.length ≤ sizeLine ∧ ∀ p, M1 p = none → Q (.ref p) (updM M1 p (.lst xs))
theorem ptup {x1} (h : PAp X H0 es ta) : PEp X H0 (.Tuple es x1 pos) (tTup ta) :=
  peW (pe_tupX h) fun σ H Q ⟨σp, M, Qp, t, s, m, u, k⟩ => ⟨σp, M, _, t, s, m, u, fun xs H1 ps M1 t1 m1 rs u1 => ⟨by rw [← rs.length]; exact u1.1, new_tup m1 rs u1.2 fun v H2 q M2 t2 => k v H2 q M2 (t1.trans t2)⟩⟩
theorem plst (h : PAp X H0 es ta) : PEp X H0 (.List es pos) (tLst ta) :=
  peW (pe_lst h) fun σ H Q ⟨σp, M, Qp, t, s, m, u, k⟩ => ⟨σp, M, _, t, s, m, u, fun xs H1 ps M1 t1 m1 rs u1 => ⟨by rw [← rs.length]; exact u1.1, fun p hp => new_lst m1 hp rs u1.2 fun v H2 q M2 t2 => k v H2 q M2 (t1.trans t2)⟩⟩

/-! ### calls -/
@[reducible] def tCB (u : RCp) (ta : TAp) : TEp := fun σ M Q => ta σ M fun ps M1 => u ps M1 Q
theorem cb_conc {r : List V → Hp → VK → Prop} {u : RCp} (hs : SimC K r u) {σ : L2.St} {H : Hp} {Q : VK} (h : concE K H0 (tCB u ta) σ H Q) : L2.tCB r (concA K H0 ta) σ H Q := by
  obtain ⟨σp, M, Qp, t, s, m, u, k⟩ := h
  exact ⟨σp, M, _, t, s, m, u, fun xs H1 ps M1 t1 m1 rs u1 => hs xs H1 ps M1 Q Qp rs m1 u1 fun v H2 p M2 t2 => k v H2 p M2 (t1.trans t2)⟩
theorem pcallB {id : String} {x : Str} {p : Pos} {u : RCp} (hc : CallP X (.builtin id) u) (hg : Gl X x) (hm : X.mg x = none) (hv : bootBuiltins x = some (.builtin id)) (ha : PAp X H0 (e :: es) ta) (hn : x ≠ "__name__" := by decide) (hdb : (x == ("__debug__" : Str)) = false := by decide)
    (he : starEach (e :: es) X.env = (false, eval e X.env) :: starEach es X.env := by rfl) (hpl : (backTo pos (starEach es X.env)).any (·.1) = false := by rfl) : PEp X H0 (.Call (.Name x p) (e :: es) [] pos) (tCB u ta) := by
  obtain ⟨r, h1, h2⟩ := hc
  exact peW (pe_callB h1 hg hm hv ha hn hdb he hpl) fun σ H Q h => cb_conc h2 h
theorem pcallTy {T : String} {x : Str} {p : Pos} {u : RCp} (hc : CallP X (.type T) u) (hg : Gl X x) (hm : X.mg x = none) (hv : bootBuiltins x = some (.type T)) (ha : PAp X H0 (e :: es) ta) (hn : x ≠ "__name__" := by decide) (hdb : (x == ("__debug__" : Str)) = false := by decide)
    (he : starEach (e :: es) X.env = (false, eval e X.env) :: starEach es X.env := by rfl) (hpl : (backTo pos (starEach es X.env)).any (·.1) = false := by rfl) : PEp X H0 (.Call (.Name x p) (e :: es) [] pos) (tCB u ta) := by
  obtain ⟨r, h1, h2⟩ := hc
  exact peW (pe_callTy h1 hg hm hv ha hn hdb he hpl) fun σ H Q h => cb_conc h2 h
theorem pcallF {id : String} {x : Str} {p : Pos} {u : RCp} (hc : CallP X (.builtin id) u) (hg : Gl X x) (hm : X.mg x = some (.builtin id)) (ha : PAp X H0 (e :: es) ta) (hdb : (x == ("__debug__" : Str)) = false := by decide)
    (he : starEach (e :: es) X.env = (false, eval e X.env) :: starEach es X.env := by rfl) (hpl : (backTo pos (starEach es X.env)).any (·.1) = false := by rfl) : PEp X H0 (.Call (.Name x p) (e :: es) [] pos) (tCB u ta) := by
  obtain ⟨r, h1, h2⟩ := hc
  exact peW (pe_callBfun h1 hg hm ha hdb he hpl) fun σ H Q h => cb_conc h2 h

def lenP (K : Kf) : RCp := fun xs M Q => match xs with
  | [.tup l] => Q (.int (l.length : Int)) M
  | [.str z] => z.length ≤ sizeLine ∧ Q (.int (z.length : Int)) M
  | [.ref a] => ∃ l, rdL K M a l ∧ Q (.int (l.length : Int)) M
  | _ => False
theorem cLen : CallP X (.builtin "len") (lenP X.K) := by
  refine ⟨_, call_len, fun xs H ps M Q Qp rs m u k => ?_⟩
  cases rs with
  | nil => exact u.elim
  | cons r rr => cases rr with
    | cons _ _ => cases r <;> exact u.elim
    | nil => cases r with
      | tup h r => exact ⟨_, _, rfl, .inr ⟨_, h.t, rfl⟩, by rw [← r.length]; exact k _ _ _ _ (Tk.refl _ _) m (.int _) u⟩
      | str z => exact ⟨_, _, rfl, ⟨u.1, rfl⟩, k _ _ _ _ (Tk.refl _ _) m (.int _) u.2⟩
      | ref a =>
        obtain ⟨l, h, q⟩ := u
        obtain ⟨vs, e, r⟩ := h.to m
        exact ⟨_, _, rfl, .inl ⟨_, e, rfl⟩, by rw [← r.length]; exact k _ _ _ _ (Tk.refl _ _) m (.int _) q⟩
      | _ => exact u.elim
def absP : RCp := fun xs M Q => match xs with
  | [.int i] => Q (.int (i.natAbs : Int)) M
  | _ => False
theorem cAbs : CallP X (.builtin "abs") absP := by
  refine ⟨_, call_abs, fun xs H ps M Q Qp rs m u k => ?_⟩
  cases rs with
  | nil => exact u.elim
  | cons r rr => cases rr with
    | cons _ _ => cases r <;> exact u.elim
    | nil => cases r with
      | int i =>
        have e : (if i < 0 then -i else i) = (i.natAbs : Int) := by split <;> omega
        exact ⟨i, rfl, by rw [e]; exact k _ _ _ _ (Tk.refl _ _) m (.int _) u⟩
      | _ => exact u.elim
def intP : RCp := fun xs M Q => match xs with
  | [.int i] => Q (.int i) M
  | [.bl b] => Q (.int (if b then 1 else 0)) M
  | _ => False
theorem cInt : CallP X (.type "int") intP := by
  refine ⟨_, call_int1, fun xs H ps M Q Qp rs m u k => ?_⟩
  cases rs with
  | nil => exact u.elim
  | cons r rr => cases rr with
    | cons _ _ => cases r <;> exact u.elim
    | nil => cases r with
      | int i => exact .inl ⟨i, rfl, k _ _ _ _ (Tk.refl _ _) m (.int _) u⟩
      | bl b => exact .inr ⟨b, rfl, k _ _ _ _ (Tk.refl _ _) m (.int _) u⟩
      | _ => exact u.elim
def gcdP : RCp := fun xs M Q => match xs with
  | [.int a, .int b] => Q (.int ((Nat.gcd a.natAbs b.natAbs : Nat) : Int)) M
  | _ => False
theorem cGcd : CallP X (.builtin "math.gcd") gcdP := by
  refine ⟨_, cr_gcd, fun xs H ps M Q Qp rs m u k => ?_⟩
  cases rs with
  | nil => exact u.elim
  | cons r rr => cases rr with
    | nil => cases r <;> exact u.elim
    | cons r2 rr2 => cases rr2 with
      | cons _ _ => cases r <;> cases r2 <;> exact u.elim
      | nil => cases r with
        | int a => cases r2 with
          | int b => exact ⟨a, b, rfl, k _ _ _ _ (Tk.refl _ _) m (.int _) u⟩
          | _ => exact u.elim
        | _ => cases r2 <;> exact u.elim
/-- tuple(xs), list(xs) of lists and tuples -/
def tupleP (K : Kf) : RCp := fun xs M Q => match xs with
  | [.tup l] => Q (.tup l) M
  | [.ref a] => ∃ l, rdL K M a l ∧ Q (.tup l) M
  | _ => False
theorem cTuple : CallP X (.type "tuple") (tupleP X.K) := by
  refine ⟨_, call_tupX, fun xs H ps M Q Qp rs m u k => ?_⟩
  cases rs with
  | nil => exact u.elim
  | cons r rr => cases rr with
    | cons _ _ => cases r <;> exact u.elim
    | nil => cases r with
      | tup h r => exact ⟨_, _, rfl, .inr ⟨h, old_tup m h r u k⟩⟩
      | ref a =>
        obtain ⟨l, h, q⟩ := u
        obtain ⟨vs, e, r⟩ := h.to m
        exact ⟨_, _, rfl, .inl ⟨e, new_tup m r q k⟩⟩
      | _ => exact u.elim
def listP (K : Kf) : RCp := fun xs M Q => match xs with
  | [.tup l] => ∀ p, M p = none → Q (.ref p) (updM M p (.lst l))
  | [.ref a] => ∃ l, rdL K M a l ∧ ∀ p, M p = none → Q (.ref p) (updM M p (.lst l))
  | _ => False
theorem cList : CallP X (.type "list") (listP X.K) := by
  refine ⟨_, call_list_of, fun xs H ps M Q Qp rs m u k => ?_⟩
  cases rs with
  | nil => exact u.elim
  | cons r rr => cases rr with
    | cons _ _ => cases r <;> exact u.elim
    | nil => cases r with
      | tup h r => exact ⟨_, _, rfl, .inr h.t, fun p hp => new_lst m hp r u k⟩
      | ref a =>
        obtain ⟨l, h, q⟩ := u
        obtain ⟨vs, e, r⟩ := h.to m
        exact ⟨_, _, rfl, .inl e, fun p hp => new_lst m hp r q k⟩
      | _ => exact u.elim
/-! isinstance -/
def isiT (t n : String) : Bool := t == n || (t == "bool" && n == "int")
def tyName (K : Kf) (M : PHp) : PV → String → Prop
  | .non, t => t = "NoneType"
  | .bl _, t => t = "bool"
  | .int _, t => t = "int"
  | .str _, t => t = "str"
  | .tup _, t => t = "tuple"
  | .ref a, t => (∃ l, (M a = some (.lst l)) ∧ t = "list") ∨ (∃ l, M a = some (.dK l) ∧ t = "dict")
  | .ty _, _ => False
theorem tyX_of {H : Hp} {M : PHp} (m : RelM K H M) {p : PV} {v : V} {t : String} (r : Rep K H p v) (h : tyName K M p t) : TyX K H v (.type t) := by
  cases r with
  | non => subst h; exact .base .non
  | bl b => subst h; exact .base (.bl b)
  | int b => subst h; exact .base (.int b)
  | str b => subst h; exact .base (.str b)
  | ty b => exact h.elim
  | ref a =>
    rcases h with ⟨l, h, rfl⟩ | ⟨l, h, rfl⟩
    · obtain ⟨vs, e, _⟩ := m a _ h
      exact .base (.lst e)
    · obtain ⟨vs, e, _⟩ := m a _ h
      exact .base (.dK e)
  | tup h1 r =>
    subst h
    rcases h1 with ⟨o, e, _⟩ | ⟨o, _, _, e, c, _⟩
    · exact .fTuple e
    · exact .kTuple e c
def isiKit (t n : String) : Bool := (["NoneType", "bool", "int", "str", "tuple", "list", "dict"].contains t) && (["bool", "int", "str", "tuple", "list", "dict"].contains n)
theorem isi_all : (["NoneType", "bool", "int", "str", "tuple", "list", "dict"].all fun t => ["bool", "int", "str", "tuple", "list", "dict"].all fun n => kitB t n == some (isiT t n)) = true := by decide +kernel
theorem kit_isi {t n : String} (h : isiKit t n = true) : kitB t n = some (isiT t n) := by
  unfold isiKit at h
  rw [Bool.and_eq_true] at h
  have h1 := List.all_eq_true.mp isi_all t (List.contains_iff_mem.mp h.1)
  have h2 := List.all_eq_true.mp h1 n (List.contains_iff_mem.mp h.2)
  exact beq_iff_eq.mp h2
theorem br_i1 {t n : String} {A B : Prop} (h : isiT t n = true) (a : A) : br (isiT t n) A B := br_t h a
theorem br_i0 {t n : String} {A B : Prop} (h : isiT t n = false) (a : B) : br (isiT t n) A B := br_f h a
theorem br_n1 {t n : String} {A B : Prop} (h : isiT t n = true) (a : B) : br (!isiT t n) A B := br_f (by rw [h]; rfl) a
theorem br_n0 {t n : String} {A B : Prop} (h : isiT t n = false) (a : A) : br (!isiT t n) A B := br_t (by rw [h]; rfl) a
def isiP (K : Kf) : RCp := fun xs M Q => match xs with
  | [.non, .ty n] => isiKit "NoneType" n = true ∧ Q (.bl (isiT "NoneType" n)) M
  | [.bl _, .ty n] => isiKit "bool" n = true ∧ Q (.bl (isiT "bool" n)) M
  | [.int _, .ty n] => isiKit "int" n = true ∧ Q (.bl (isiT "int" n)) M
  | [.str _, .ty n] => isiKit "str" n = true ∧ Q (.bl (isiT "str" n)) M
  | [.tup _, .ty n] => isiKit "tuple" n = true ∧ Q (.bl (isiT "tuple" n)) M
  | [.ref a, .ty n] => ∃ t, tyName K M (.ref a) t ∧ isiKit t n = true ∧ Q (.bl (isiT t n)) M
  | _ => False
theorem cIsi : CallP X (.builtin "isinstance") (isiP X.K) := by
  refine ⟨_, call_isi, fun xs H ps M Q Qp rs m u k => ?_⟩
  cases rs with
  | nil => exact u.elim
  | cons r rr => cases rr with
    | nil => cases r <;> exact u.elim
    | cons r2 rr2 => cases rr2 with
      | cons _ _ => cases r <;> cases r2 <;> exact u.elim
      | nil =>
        cases r2 with
        | ty n =>
          have go : ∀ (v : V) (p : PV) (t : String), Rep X.K H p v → tyName X.K M p t → isiKit t n = true → Qp (.bl (isiT t n)) M → rIsi X.K [v, .ty n] H Q := fun v p t r h1 h2 q =>
            ⟨v, .ty n, .type t, .type n, _, rfl, .ty n, tyX_of m r h1, kit_ty (kit_isi h2), k _ _ _ _ (Tk.refl _ _) m (.bl _) q⟩
          cases r with
          | non => exact go _ _ _ .non rfl u.1 u.2
          | bl b => exact go _ _ _ (.bl b) rfl u.1 u.2
          | int b => exact go _ _ _ (.int b) rfl u.1 u.2
          | str b => exact go _ _ _ (.str b) rfl u.1 u.2
          | tup a b => exact go _ _ _ (.tup a b) rfl u.1 u.2
          | ref a => obtain ⟨t, h1, h2, h3⟩ := u; exact go _ _ _ (.ref a) h1 h2 h3
          | ty b => exact u.elim
        | _ => cases r <;> exact u.elim

/-! ### subscripts -/
def ixP (K : Kf) : R2p := fun x y M Q => match x, y with
  | .tup l, .int i => ∃ v, atI l i = some v ∧ Q v M
  | .ref a, .int i => ∃ l, rdL K M a l ∧ ∃ v, atI l i = some v ∧ Q v M
  | .str z, .int i => z.length ≤ sizeLine ∧ ∃ c, atI z.cps.toList i = some c ∧ Q (.str ⟨#[c]⟩) M
  | _, _ => False
theorem Reps.at {H : Hp} {ps : List PV} {vs : List V} {i : Int} {p : PV} (r : Reps K H ps vs) (h : atI ps i = some p) : ∃ v, atI vs i = some v ∧ Rep K H p v := by
  unfold atI at h ⊢
  rw [r.length] at h
  cases e : ixN vs.length i with
  | none => rw [e] at h; cases h
  | some j => rw [e] at h; exact r.get h
theorem pix {a b : Expr} {ta tb : TEp} (ha : PEp X H0 a ta) (hb : PEp X H0 b tb) (hs : PlainIx b := by exact fun _ _ => rfl) : PEp X H0 (.Subscript a b pos) (tOp (ixP X.K) ta tb) := by
  refine peW (pe_ix ix_seq ha hb hs) fun σ H Q h => op_conc (r0 := rIx X.K) (fun x y H px py M Q Qp rx ry m u k => ?_) h
  cases rx with
  | tup h r => cases ry with
    | int i =>
      obtain ⟨v, e, q⟩ := u
      obtain ⟨w, e2, rw⟩ := r.at e
      exact .inr (.inl ⟨_, _, i, w, rfl, rfl, h.t, e2, k _ _ _ _ (Tk.refl _ _) m rw q⟩)
    | _ => exact u.elim
  | ref a => cases ry with
    | int i =>
      obtain ⟨l, h, v, e, q⟩ := u
      obtain ⟨vs, es, r⟩ := h.to m
      obtain ⟨w, e2, rw⟩ := r.at e
      exact .inl ⟨_, _, i, w, rfl, rfl, es, e2, k _ _ _ _ (Tk.refl _ _) m rw q⟩
    | _ => exact u.elim
  | str z => cases ry with
    | int i =>
      obtain ⟨h, c, e, q⟩ := u
      exact .inr (.inr ⟨z, i, c, rfl, rfl, h, e, k _ _ _ _ (Tk.refl _ _) m (.str _) q⟩)
    | _ => exact u.elim
  | _ => exact u.elim

/-! ### statements -/
/-- a stop between two statements -/
@[irreducible] def Stp (u : TSp) (D : PEnds) (σ : PSt) (M : PHp) : Prop := u D σ M
theorem stp {u : TSp} {D : PEnds} {σ : PSt} {M : PHp} (h : u D σ M) : Stp u D σ M := by unfold Stp; exact h
theorem stp_of {u : TSp} {D : PEnds} {σ : PSt} {M : PHp} (h : Stp u D σ M) : u D σ M := by unfold Stp at h; exact h
@[reducible] def tNext : TSp := fun D σ M => D.nx σ M
def nxt (D : PEnds) (f : PSt → PHp → Prop) : PEnds := { nx := f, rt := D.rt, bk := D.bk, ct := D.ct }
@[reducible] def tSeq (t u : TSp) : TSp := fun D σ M => t (nxt D fun σ1 M1 => Stp u D σ1 M1) σ M
variable {st : Stmt} {rest sts : List Stmt} {ts us : TSp}
theorem seq_conc {σ : L2.St} {H : Hp} {D : Ends} (h : concS K H0 (tSeq ts us) D σ H) : L2.tSeq (concS K H0 ts) (concS K H0 us) D σ H := by
  obtain ⟨σp, M, Dp, t, s, m, u, k⟩ := h
  refine ⟨σp, M, _, t, s, m, u, ⟨fun σ1 H1 σp1 M1 t1 s1 m1 q => ?_, k.rt, k.bk, k.ct⟩⟩
  exact ⟨σp1, M1, Dp, t.trans t1, s1, m1, stp_of q, k.mono t1⟩
theorem pssnil : PSsp X H0 [] tNext := pssW pss_nil fun D σ H ⟨σp, M, Dp, t, s, m, u, k⟩ => k.nx _ _ _ _ (Tk.refl _ _) s m u
theorem psscons (h1 : PSp' X H0 st ts) (h2 : PSsp X H0 rest us) : PSsp X H0 (st :: rest) (tSeq ts us) := pssW (pss_cons h1 h2) fun D σ H h => seq_conc h
theorem pssone (h1 : PSp' X H0 st ts) : PSsp X H0 [st] ts := pss_one h1
@[reducible] def tBreak : TSp := fun D σ M => D.bk σ M
@[reducible] def tCont : TSp := fun D σ M => D.ct σ M
theorem pspass : PSp' X H0 (.Pass pos) tNext := psW ps_pass fun D σ H ⟨σp, M, Dp, t, s, m, u, k⟩ => k.nx _ _ _ _ (Tk.refl _ _) s m u
theorem psbreak : PSp' X H0 (.Break pos) tBreak := psW ps_break fun D σ H ⟨σp, M, Dp, t, s, m, u, k⟩ => k.bk _ _ _ _ (Tk.refl _ _) s m u
theorem pscont : PSp' X H0 (.Continue pos) tCont := psW ps_continue fun D σ H ⟨σp, M, Dp, t, s, m, u, k⟩ => k.ct _ _ _ _ (Tk.refl _ _) s m u
theorem psdoc {x j pos'} : PSp' X H0 (.Expr (.Constant (.str x) j pos) pos') tNext := psW ps_doc fun D σ H ⟨σp, M, Dp, t, s, m, u, k⟩ => k.nx _ _ _ _ (Tk.refl _ _) s m u
@[reducible] def tDrop (te : TEp) : TSp := fun D σ M => te σ M fun _ M1 => D.nx σ M1
theorem psexpr (he : PEp X H0 e te) (hs : swapsWith e none pos.line X.env = pure false := by rfl) : PSp' X H0 (.Expr e pos) (tDrop te) :=
  psW (ps_expr he hs) fun D σ H ⟨σp, M, Dp, t, s, m, u, k⟩ => ⟨σp, M, _, t, s, m, u, fun v H1 p M1 t1 m1 r u1 => k.nx _ _ _ _ t1 (s.mono t1) m1 u1⟩
@[reducible] def tRet (te : TEp) : TSp := fun D σ M => te σ M D.rt
theorem psret (he : PEp X H0 e te) : PSp' X H0 (.Return (some e) pos) (tRet te) :=
  psW (ps_ret he) fun D σ H ⟨σp, M, Dp, t, s, m, u, k⟩ => ⟨σp, M, _, t, s, m, u, fun v H1 p M1 t1 m1 r u1 => k.rt _ _ _ _ t1 m1 r u1⟩
@[reducible] def tRetN : TSp := fun D _ M => D.rt .non M
theorem psretN : PSp' X H0 (.Return none pos) tRetN := psW ps_retN fun D σ H ⟨σp, M, Dp, t, s, m, u, k⟩ => k.rt _ _ _ _ (Tk.refl _ _) m .non u
@[reducible] def tIfS (c : TTp) (t u : TSp) : TSp := fun D σ M => c σ M fun b M1 => br b (t D σ M1) (u D σ M1)
theorem psif {c : Expr} {a b : List Stmt} {tc : TTp} (hc : PTp X H0 c tc) (ha : PSsp X H0 a ts) (hb : PSsp X H0 b us) : PSp' X H0 (.If c a b pos) (tIfS tc ts us) :=
  psW (ps_if hc ha hb) fun D σ H ⟨σp, M, Dp, t, s, m, u, k⟩ => ⟨σp, M, _, t, s, m, u, fun c H1 M1 t1 m1 u1 => br_imp u1
    (fun q => ⟨σp, M1, Dp, t.trans t1, s.mono t1, m1, q, k.mono t1⟩) fun q => ⟨σp, M1, Dp, t.trans t1, s.mono t1, m1, q, k.mono t1⟩⟩

/-! ### targets -/
abbrev TGp := PV → PSt → PHp → (PSt → PHp → Prop) → Prop
abbrev TGsp := List PV → PSt → PHp → (PSt → PHp → Prop) → Prop
def concG (K : Kf) (H0 : Hp) (g : TGp) : TG := fun v σ H Q => ∃ p σp M Qp, Tk K H0 H ∧ Rep K H p v ∧ RelS K H σp σ ∧ RelM K H M ∧ g p σp M Qp ∧ ∀ σ' H' σp' M', Tk K H H' → RelS K H' σp' σ' → RelM K H' M' → Qp σp' M' → Q σ' H'
def concGs (K : Kf) (H0 : Hp) (g : TGsp) : TGs := fun vs σ H Q => ∃ ps σp M Qp, Tk K H0 H ∧ Reps K H ps vs ∧ RelS K H σp σ ∧ RelM K H M ∧ g ps σp M Qp ∧ ∀ σ' H' σp' M', Tk K H H' → RelS K H' σp' σ' → RelM K H' M' → Qp σp' M' → Q σ' H'
abbrev PGp (X : Cx) (H0 : Hp) (e : Expr) (g : TGp) : Prop := PG X e (concG X.K H0 g)
abbrev PGsp (X : Cx) (H0 : Hp) (es : List Expr) (g : TGsp) : Prop := PGs X es (concGs X.K H0 g)
theorem pgW {t t' : TG} (h : PG X e t) (w : ∀ v σ H Q, t' v σ H Q → t v σ H Q) : PG X e t' := ⟨fun pins s σ H v u Q I r q => h.run pins s σ H v u Q I r (w _ _ _ _ q)⟩
theorem pgsW {t t' : TGs} (h : PGs X es t) (w : ∀ v σ H Q, t' v σ H Q → t v σ H Q) : PGs X es t' := ⟨fun pins s σ H v u Q I r q => h.run pins s σ H v u Q I r (w _ _ _ _ q)⟩
@[reducible] def gName (i : Nat) : TGp := fun v σ M Q => Q (σ.set i (some v)) M
theorem pgname {i : Nat} {x : Str} (hN : X.N.Nodup) (hi : X.N[i]? = some x := by rfl) (hx : Loc X.env.scope x := by first | exact .inl rfl | exact .inr rfl) (hf : X.fn x = true ∨ X.env.scope.names.lookup x = some .local := by first | exact .inl rfl | exact .inr rfl) : PGp X H0 (.Name x pos) (gName i) :=
  pgW (pg_name hN hi hx hf) fun v σ H Q ⟨p, σp, M, Qp, t, r, s, m, u, k⟩ => k _ _ _ _ (Tk.refl _ _) (s.set r i) m u
@[reducible] def gNil : TGsp := fun vs σ M Q => match vs with | [] => Q σ M | _ => False
@[reducible] def gCons (t : TGp) (u : TGsp) : TGsp := fun vs σ M Q => match vs with | v :: r => t v σ M fun σ' M' => u r σ' M' Q | [] => False
theorem pgsnil : PGsp X H0 [] gNil := pgsW pgs_nil fun v σ H Q ⟨p, σp, M, Qp, t, r, s, m, u, k⟩ => by
  cases r with
  | nil => exact ⟨rfl, k _ _ _ _ (Tk.refl _ _) s m u⟩
  | cons _ _ => exact u.elim
theorem pgscons {g : TGp} {gs : TGsp} (h1 : PGp X H0 e g) (h2 : PGsp X H0 es gs) (hs : (assignEach (e :: es) X.env).map (·.2) = assign e X.env :: (assignEach es X.env).map (·.2) := by rfl) : PGsp X H0 (e :: es) (gCons g gs) :=
  pgsW (pgs_cons h1 h2 hs) fun v σ H Q ⟨p, σp, M, Qp, t, r, s, m, u, k⟩ => by
    cases r with
    | nil => exact u.elim
    | cons r rr => exact ⟨_, _, rfl, _, σp, M, _, t, r, s, m, u, fun σ1 H1 σp1 M1 t1 s1 m1 u1 => ⟨_, σp1, M1, Qp, t.trans t1, rr.mono t1, s1, m1, u1, fun σ2 H2 σp2 M2 t2 => k σ2 H2 σp2 M2 (t1.trans t2)⟩⟩
@[reducible] def gTup (n : Nat) (g : TGsp) : TGp := fun v σ M Q => match v with | .tup l => l.length = n ∧ g l σ M Q | _ => False
theorem pgtup {gs : TGsp} {j : Nat} {n : Nat} (hc : X.calm = true) (h : PGsp X H0 es gs) (hn : (assignEach es X.env).length = n := by rfl) (hst : (assignEach es X.env).findIdx? (·.1) = none := by rfl) : PGp X H0 (.Tuple es j pos) (gTup n gs) :=
  pgW (pg_tup hc h hn hst) fun v σ H Q ⟨p, σp, M, Qp, t, r, s, m, u, k⟩ => by
    cases r with
    | tup h r => exact ⟨_, _, rfl, h.t, by rw [← r.length]; exact u.1, _, σp, M, Qp, t, r, s, m, u.2, k⟩
    | _ => exact u.elim
/-- xs[i] = v -/
abbrev TSetp := PV → PV → PV → PHp → (PHp → Prop) → Prop
@[reducible] def gSub (to ti : TEp) (t : TSetp) : TGp := fun v σ M Q => to σ M fun o M1 => ti σ M1 fun i M2 => t o i v M2 fun M3 => Q σ M3
def setP : TSetp := fun o i v M Q => match o, i with
  | .ref a, .int k => ∃ xs j, M a = some (.lst xs) ∧ ixN xs.length k = some j ∧ Q (updM M a (.lst (xs.set j v)))
  | _, _ => False
theorem Tk_set {H : Hp} {M : PHp} {a : Addr} {l l' : List PV} {vs vs' : List V} (m : RelM K H M) (e : H a = some (.lst vs)) (r : Reps K H l' vs') : Tk K H (upd H a (.lst vs')) ∧ RelM K (upd H a (.lst vs')) (updM M a (.lst l')) :=
  ⟨.lst e, m.put (m := .lst l') (.lst e) ⟨vs', upd_same, r.mono (.lst e)⟩⟩
theorem pgsub {o i : Expr} {to ti : TEp} (ho : PEp X H0 o to) (hi : PEp X H0 i ti)
    (ha : ∀ z, assign (.Subscript o i pos) X.env z = (do
      let zo ← holding [z] (eval o X.env); let zi ← holding [z, zo] (eval i X.env); standAt pos
      holding [z, zo, zi] (setItem zo zi z); release [z, zo, zi] []) := by intro _; rfl) : PGp X H0 (.Subscript o i pos) (gSub to ti setP) :=
  pgW (pg_sub ho hi set_list ha) fun v σ H Q ⟨p, σp, M, Qp, t, r, s, m, u, k⟩ =>
    ⟨σp, M, _, t, s, m, u, fun o H1 po M1 t1 m1 r1 u1 => ⟨σp, M1, _, t.trans t1, s.mono t1, m1, u1, fun i H2 pi M2 t2 m2 r2 u2 => by
      have ro := r1.mono t2
      cases ro with
      | ref a => cases r2 with
        | int j =>
          obtain ⟨xs, n, h1, h2, q⟩ := u2
          obtain ⟨vs, e, rv⟩ := m2 _ _ h1
          obtain ⟨tk, mm⟩ := Tk_set (l := xs) m2 e (rv.set (r.mono (t1.trans t2)) n)
          exact ⟨_, _, _, _, rfl, rfl, e, by rw [← rv.length]; exact h2, k _ _ _ _ ((t1.trans t2).trans tk) (s.mono ((t1.trans t2).trans tk)) mm q⟩
        | _ => exact u2.elim
      | _ => exact u2.elim⟩⟩
@[reducible] def tAsg (te : TEp) (g : TGp) : TSp := fun D σ M => te σ M fun x M1 => g x σ M1 D.nx
theorem psasg {tg : Expr} {g : TGp} (he : PEp X H0 e te) (hg : PGp X H0 tg g) (hs : swapsWithSole [tg] e pos.line X.env = pure false := by rfl) (hw : swappedStores [tg] e X.env = pure none := by rfl) (h1 : (assignEach [tg] X.env).map (·.2) = [assign tg X.env] := by rfl) : PSp' X H0 (.Assign [tg] e pos) (tAsg te g) :=
  psW (ps_asg he hg hs hw h1) fun D σ H ⟨σp, M, Dp, t, s, m, u, k⟩ => ⟨σp, M, _, t, s, m, u, fun v H1 p M1 t1 m1 r u1 => ⟨p, σp, M1, _, t.trans t1, r, s.mono t1, m1, u1, fun σ2 H2 σp2 M2 t2 => k.nx σ2 H2 σp2 M2 (t1.trans t2)⟩⟩
theorem psset (i : Nat) {x : Str} {pos' : Pos} (hN : X.N.Nodup) (he : PEp X H0 e te) (hi : X.N[i]? = some x := by rfl) (hx : Loc X.env.scope x := by first | exact .inl rfl | exact .inr rfl) (hs : swapsWith e (some (.Name x pos')) pos.line X.env = pure false := by rfl)
    (hf : X.fn x = true ∨ X.env.scope.names.lookup x = some .local := by first | exact .inl rfl | exact .inr rfl) : PSp' X H0 (.Assign [.Name x pos'] e pos) (tAsg te (gName i)) :=
  psW (ps_set hN hi hx he hs hf) fun D σ H ⟨σp, M, Dp, t, s, m, u, k⟩ => ⟨σp, M, _, t, s, m, u, fun v H1 p M1 t1 m1 r u1 => k.nx _ _ _ _ t1 ((s.mono t1).set r i) m1 u1⟩
/-- a, b = e1, e2 -/
@[reducible] def tPar (i j : Nat) (ta : TAp) : TSp := fun D σ M => ta σ M fun vs M1 => match vs with | [v, w] => D.nx ((σ.set i (some v)).set j (some w)) M1 | _ => False
theorem pspar (i j : Nat) {x y : Str} {a b : Expr} {px py pt : Pos} {kt k2 pt2} (hc : X.calm = true) (hN : X.N.Nodup) (ha : PAp X H0 [a, b] ta) (hi : X.N[i]? = some x := by rfl) (hj : X.N[j]? = some y := by rfl) (hij : i ≠ j := by decide)
    (p : ∀ t, PA X [a, b] t → PS X (.Assign [.Tuple [.Name x px, .Name y py] kt pt] (.Tuple [a, b] k2 pt2) pos) (L2.tPar i j t)) : PSp' X H0 (.Assign [.Tuple [.Name x px, .Name y py] kt pt] (.Tuple [a, b] k2 pt2) pos) (tPar i j ta) :=
  psW (p _ ha) fun D σ H ⟨σp, M, Dp, t, s, m, u, k⟩ => ⟨σp, M, _, t, s, m, u, fun vs H1 ps M1 t1 m1 rs u1 => by
    cases rs with
    | nil => exact u1.elim
    | cons r rr => cases rr with
      | nil => exact u1.elim
      | cons r2 rr2 => cases rr2 with
        | nil => exact ⟨_, _, rfl, k.nx _ _ _ _ t1 (((s.mono t1).set r i).set r2 j) m1 u1⟩
        | cons _ _ => exact u1.elim⟩
/-- x op= e -/
@[reducible] def tAug (i : Nat) (te : TEp) (r : R2p) : TSp := fun D σ M => match σ[i]? with | some (some x) => te σ M fun y M1 => r x y M1 fun z M2 => D.nx (σ.set i (some z)) M2 | _ => False
theorem psaug (i : Nat) {x : Str} {op : Operator} {pos' : Pos} {r : R2p} (hN : X.N.Nodup) (ho : OpP X (inplaceOp op) r) (he : PEp X H0 e te) (hi : X.N[i]? = some x := by rfl) (hx : Loc X.env.scope x := by first | exact .inl rfl | exact .inr rfl)
    (hf : X.fn x = true ∨ X.env.scope.names.lookup x = some .local := by first | exact .inl rfl | exact .inr rfl) : PSp' X H0 (.AugAssign (.Name x pos') op e pos) (tAug i te r) := by
  obtain ⟨r0, h1, h2⟩ := ho
  refine psW (ps_aug (ti := r0) hN hi hx he h1 hf) fun D σ H ⟨σp, M, Dp, t, s, m, u, k⟩ => ?_
  unfold tAug at u
  split at u
  · next p e =>
    obtain ⟨v, e1, rv⟩ := s.get e
    exact ⟨v, e1, σp, M, _, t, s, m, u, fun y H1 py M1 t1 m1 ry u1 => h2 v y H1 p py M1 _ _ (rv.mono t1) ry m1 u1 fun z H2 pz M2 t2 m2 rz q => k.nx _ _ _ _ (t1.trans t2) ((s.mono (t1.trans t2)).set rz i) m2 q⟩
  · exact u.elim
def iaddP : R2p := fun x y M Q => match x, y with
  | .int i, .int j => Q (.int (i + j)) M
  | .str a, .str b => a.length + b.length ≤ sizeLine ∧ Q (.str (a ++ b)) M
  | _, _ => False
theorem iopAdd : OpP X (inplaceOp .Add) iaddP := by
  refine ⟨_, iop_add.or iop_add_str, fun x y H px py M Q Qp rx ry m u k => ?_⟩
  cases rx with
  | int i => cases ry with
    | int j => exact .inl ⟨i, j, rfl, rfl, k _ _ _ _ (Tk.refl _ _) m (.int _) u⟩
    | _ => exact u.elim
  | str i => cases ry with
    | str j => exact .inr ⟨i, j, rfl, rfl, u.1, k _ _ _ _ (Tk.refl _ _) m (.str _) u.2⟩
    | _ => exact u.elim
  | _ => exact u.elim
theorem iopSub : OpP X (inplaceOp .Sub) subP := by
  refine ⟨_, iop_sub, fun x y H px py M Q Qp rx ry m u k => ?_⟩
  cases rx with
  | int i => cases ry with
    | int j => exact ⟨i, j, rfl, rfl, k _ _ _ _ (Tk.refl _ _) m (.int _) u⟩
    | _ => exact u.elim
  | _ => exact u.elim
def imulP : R2p := fun x y M Q => match x, y with
  | .int i, .int j => IntMulOk i j ∧ Q (.int (i * j)) M
  | _, _ => False
theorem iop_mulG : OpR X (inplaceOp .Mult) (rI IntMulOk fun i j => .int (i * j)) := opI fun _ _ _ _ _ _ _ hc q => PyProof.Rows.imul_int q hc
theorem iopMul : OpP X (inplaceOp .Mult) imulP := by
  refine ⟨_, iop_mulG, fun x y H px py M Q Qp rx ry m u k => ?_⟩
  cases rx with
  | int i => cases ry with
    | int j => exact ⟨i, j, rfl, rfl, u.1, k _ _ _ _ (Tk.refl _ _) m (.int _) u.2⟩
    | _ => exact u.elim
  | _ => exact u.elim
end
end PL

set_option Elab.async false
set_option linter.all false
set_option maxRecDepth 100000
set_option maxHeartbeats 2000000
/-! PL4: loops, comprehensions, defs and their calls. -/
namespace PL
open PySem L2
section
variable {X : Cx} {H0 : Hp} {pos : Pos} {K : Kf}
/-! ### what is walked -/
structure ItR (K : Kf) (H1 : Hp) (J : It) (items : List PV) (keep : PHp → Prop) : Prop where
  go : ∀ i H M, Tk K H1 H → RelM K H M → keep M → i < items.length → J.go i H
  yld : ∀ i H M x H', Tk K H1 H → RelM K H M → keep M → i < items.length → J.yld i H x H' → ∃ p, items[i]? = some p ∧ Rep K H' p x ∧ Tk K H H' ∧ ∀ M, RelM K H M → RelM K H' M
  stop : ∀ H M, Tk K H1 H → RelM K H M → keep M → J.stop items.length H
abbrev TIp := PSt → PHp → (List PV → (PHp → Prop) → PHp → Prop) → Prop
def concI (K : Kf) (H0 : Hp) (w : TIp) : TI := fun σ H R => ∃ σp M Rp, Tk K H0 H ∧ RelS K H σp σ ∧ RelM K H M ∧ w σp M Rp ∧ ∀ J H' items keep M', Tk K H H' → RelM K H' M' → ItR K H' J items keep → Rp items keep M' → R J H'
abbrev PIp' (X : Cx) (H0 : Hp) (tg iter : Expr) (w : TIp) : Prop := PI X tg iter (concI X.K H0 w)
theorem piW {tg iter : Expr} {t t' : TI} (h : PI X tg iter t) (w : ∀ σ H R, t' σ H R → t σ H R) : PI X tg iter t' := ⟨fun pins s σ H R I q => h.run pins s σ H R I (w _ _ _ q)⟩
theorem itr_list {H1 : Hp} {a : Addr} {l : List PV} : ItR K H1 (Itl K a) l (fun M => rdL K M a l) where
  go := fun i H M t m k hi => by
    obtain ⟨vs, e, r⟩ := k.to m
    have h2 : i < vs.length := by rw [← r.length]; exact hi
    exact ⟨vs, vs[i], e, by simp [h2]⟩
  yld := fun i H M x H' t m k hi y => by
    obtain ⟨e, y⟩ := y
    subst e
    obtain ⟨vs, e, r⟩ := k.to m
    obtain ⟨v, h2, r2⟩ := r.get (List.getElem?_eq_getElem hi)
    have := y vs e
    rw [h2] at this
    cases this
    exact ⟨_, List.getElem?_eq_getElem hi, r2, Tk.refl _ _, fun _ h => h⟩
  stop := fun H M t m k => by
    obtain ⟨vs, e, r⟩ := k.to m
    exact ⟨vs, e, by rw [r.length]; exact Nat.le_refl _⟩
theorem itr_tup {H1 : Hp} {a : Addr} {l : List PV} {vs : List V} (h : SqX K H1 a vs) (r0 : Reps K H1 l vs) : ItR K H1 (Itt K a) l (fun _ => True) where
  go := fun i H M t m k hi => by
    have h2 : i < vs.length := by rw [← r0.length]; exact hi
    exact ⟨vs, vs[i], (t _ _ h).t, by simp [h2]⟩
  yld := fun i H M x H' t m k hi y => by
    obtain ⟨e, y⟩ := y
    subst e
    obtain ⟨v, h2, r2⟩ := (r0.mono t).get (List.getElem?_eq_getElem hi)
    have := y vs (t _ _ h).t
    rw [h2] at this
    cases this
    exact ⟨_, List.getElem?_eq_getElem hi, r2, Tk.refl _ _, fun _ h => h⟩
  stop := fun H M t m k => ⟨vs, (t _ _ h).t, by rw [r0.length]; exact Nat.le_refl _⟩
def signs (z : Str) : List PV := z.cps.toList.map fun c => PV.str ⟨#[c]⟩
theorem itr_str {H1 : Hp} {z : Str} : ItR K H1 (Its z) (signs z) (fun _ => True) where
  go := fun i H M t m k hi => by
    unfold signs at hi
    rw [List.length_map] at hi
    exact hi
  yld := fun i H M x H' t m k hi y => by
    obtain ⟨e, c, h1, h2⟩ := y
    subst e; subst h2
    refine ⟨.str ⟨#[c]⟩, ?_, .str _, Tk.refl _ _, fun _ h => h⟩
    unfold signs
    rw [List.getElem?_map, Array.getElem?_toList, h1]
    rfl
  stop := fun H M t m k => by
    show z.cps.size ≤ (signs z).length
    unfold signs
    rw [List.length_map]
    exact Nat.le_refl _
/-- a value that is walked -/
def IterR (X : Cx) (tg : Expr) (wi : V → Hp → (It → Hp → Prop) → Prop) : Prop := ∀ (pins : List (Addr × Obj)) (s : Shared) (σ : L2.St) (H : Hp) (R : It → Hp → Prop) (x : V) (v : Value), Inv X pins σ H s → RelV x v → wi x H R →
  wpAny (model X.prog X.w) X.A (pyIter v) (PIE X pins σ tg R) X.xe s
theorem ir_list {tg : Expr} : IterR X tg (fun x H R => ∃ a, x = .ref a ∧ (∃ xs, SqL X.K H a xs) ∧ R (Itl X.K a) H) := by
  rintro pins t σ G R y v I rel ⟨a, rfl, ⟨_, there⟩, q⟩
  cases rel
  obtain ⟨_, _, plain, _⟩ := I.list there
  exact wpAny_pyIter_list plain.isList (pi_one (tk := t.toks) I _ (turn_list a _) ⟨_, Heap.get?_push_size _ rfl, rfl, rfl⟩ q)
theorem ir_tup {tg : Expr} : IterR X tg (fun x H R => ∃ a, x = .ref a ∧ (∃ xs, SqT X.K H a xs) ∧ R (Itt X.K a) H) := by
  rintro pins t σ G R y v I rel ⟨a, rfl, ⟨_, there⟩, q⟩
  cases rel
  obtain ⟨_, _, plain, _⟩ := I.tuple there
  exact wpAny_pyIter_tuple plain (pi_one (tk := t.toks) I _ (turn_tuple a _) ⟨_, Heap.get?_push_size _ rfl, rfl, rfl⟩ q)
theorem ir_str {tg : Expr} : IterR X tg (fun v H R => ∃ x, v = .str x ∧ R (Its x) H) := by
  rintro pins t σ G R y v I rel ⟨z, rfl, q⟩
  obtain ⟨tk, rfl⟩ := rel
  by_cases small : z.cps.all (· < 128) = true
  · exact wpAny_pyIter_ascii small (pi_one (tk := t.toks) I _ (turn_str _ z tk _ (.inl rfl)) ⟨_, Heap.get?_push_size _ rfl, rfl, rfl⟩ q)
  · exact wpAny_pyIter_wide (Bool.not_eq_true _ ▸ small) (pi_one (tk := t.toks) I _ (turn_str _ z tk _ (.inr rfl)) ⟨_, Heap.get?_push_size _ rfl, rfl, rfl⟩ q)
/-- over a list, a tuple, a text -/
@[reducible] def iSeq (K : Kf) (te : TEp) : TIp := fun σ M R => te σ M fun x M1 => match x with
  | .tup l => R l (fun _ => True) M1
  | .ref a => ∃ l, rdL K M1 a l ∧ R l (fun M => rdL K M a l) M1
  | .str z => R (signs z) (fun _ => True) M1
  | _ => False
theorem piseq {tg e : Expr} {te : TEp} (h : PEp X H0 e te) : PIp' X H0 tg e (iSeq X.K te) := by
  refine ⟨fun pins s σ H R I q => ?_⟩
  obtain ⟨σp, M, Rp, t, s0, m, u, k⟩ := q
  refine thn (h.run pins s σ H (fun x H1 => ∃ px M1, Tk X.K H H1 ∧ RelM X.K H1 M1 ∧ Rep X.K H1 px x ∧ (match px with
      | .tup l => Rp l (fun _ => True) M1
      | .ref a => ∃ l, rdL X.K M1 a l ∧ Rp l (fun M => rdL X.K M a l) M1
      | .str z => Rp (signs z) (fun _ => True) M1
      | _ => False)) I ⟨σp, M, _, t, s0, m, u, fun x H1 px M1 t1 m1 rx u1 => ⟨px, M1, t1, m1, rx, u1⟩⟩) fun v s1 z => ?_
  obtain ⟨x, H1, I1, rv, px, M1, t1, m1, rx, u1⟩ := z
  cases rx with
  | tup h r => exact ir_tup pins s1 σ H1 R _ v I1 rv ⟨_, rfl, ⟨_, h.t⟩, k _ _ _ _ _ t1 m1 (itr_tup h r) u1⟩
  | ref a =>
    obtain ⟨l, hl, q⟩ := u1
    obtain ⟨vs, e, r⟩ := hl.to m1
    exact ir_list pins s1 σ H1 R _ v I1 rv ⟨_, rfl, ⟨_, e⟩, k _ _ _ _ _ t1 m1 itr_list q⟩
  | str z => exact ir_str pins s1 σ H1 R _ v I1 rv ⟨_, rfl, k _ _ _ _ _ t1 m1 itr_str u1⟩
  | _ => exact u1.elim
/-- range(n), range(a, b) -/
def rng (lo : Int) (n : Nat) : List PV := (List.range n).map fun (i : Nat) => PV.int (lo + (i : Int))
theorem rng_len (lo : Int) (n : Nat) : (rng lo n).length = n := by unfold rng; simp
theorem rng_get {lo : Int} {n i : Nat} {p : PV} (h : (rng lo n)[i]? = some p) : i < n ∧ p = .int (lo + (i : Int)) := by
  unfold rng at h
  rw [List.getElem?_map] at h
  by_cases hi : i < n
  · rw [List.getElem?_range hi] at h
    exact ⟨hi, (Option.some.inj h).symm⟩
  · rw [List.getElem?_eq_none (by simp; omega)] at h
    cases h
theorem itr_rng {H1 : Hp} {lo : Int} {n : Nat} : ItR K H1 (Itr lo n) (rng lo n) (fun _ => True) where
  go := fun i H M t m k hi => by rw [rng_len] at hi; exact hi
  yld := fun i H M x H' t m k hi y => by
    rw [rng_len] at hi
    obtain ⟨e, y⟩ := y
    subst e; subst y
    exact ⟨.int (lo + (i : Int)), by unfold rng; rw [List.getElem?_map, List.getElem?_range hi]; rfl, .int _, Tk.refl _ _, fun _ h => h⟩
  stop := fun H M t m k => by rw [rng_len]; exact Nat.le_refl _
@[reducible] def iRng1 (ta : TAp) : TIp := fun σ M R => ta σ M fun vs M1 => match vs with
  | [.int j] => (-(2 ^ 62) ≤ j ∧ j < 2 ^ 62) ∧ R (rng 0 j.toNat) (fun _ => True) M1
  | _ => False
@[reducible] def iRng2 (ta : TAp) : TIp := fun σ M R => ta σ M fun vs M1 => match vs with
  | [.int i, .int j] => (-(2 ^ 62) ≤ i ∧ i < 2 ^ 62 ∧ -(2 ^ 62) ≤ j ∧ j < 2 ^ 62) ∧ R (rng i (j - i).toNat) (fun _ => True) M1
  | _ => False
theorem pirng1 {tg a : Expr} {ta : TAp} {p : Pos} (hg : Gl X "range") (hm : X.mg "range" = none) (ha : PAp X H0 [a] ta) (hs : starEach [a] X.env = [(false, eval a X.env)] := by rfl) : PIp' X H0 tg (.Call (.Name "range" p) [a] [] pos) (iRng1 ta) :=
  piW (pi_range1 hg hm ha hs) fun σ H R ⟨σp, M, Rp, t, s, m, u, k⟩ => ⟨σp, M, _, t, s, m, u, fun vs H1 ps M1 t1 m1 rs u1 => by
    cases rs with
    | nil => exact u1.elim
    | cons r rr => cases rr with
      | nil => cases r with
        | int j => exact ⟨j, rfl, u1.1.1, u1.1.2, k _ _ _ _ _ t1 m1 itr_rng u1.2⟩
        | _ => exact u1.elim
      | cons r2 rr2 => cases r <;> exact u1.elim⟩
theorem pirng2 {tg a b : Expr} {ta : TAp} {p : Pos} (hg : Gl X "range") (hm : X.mg "range" = none) (ha : PAp X H0 [a, b] ta) (hs : starEach [a, b] X.env = [(false, eval a X.env), (false, eval b X.env)] := by rfl) (hs2 : starEach [b] X.env = [(false, eval b X.env)] := by rfl) : PIp' X H0 tg (.Call (.Name "range" p) [a, b] [] pos) (iRng2 ta) :=
  piW (pi_range2 hg hm ha hs hs2) fun σ H R ⟨σp, M, Rp, t, s, m, u, k⟩ => ⟨σp, M, _, t, s, m, u, fun vs H1 ps M1 t1 m1 rs u1 => by
    cases rs with
    | nil => exact u1.elim
    | cons r rr => cases rr with
      | nil => cases r <;> exact u1.elim
      | cons r2 rr2 => cases rr2 with
        | nil => cases r with
          | int i => cases r2 with
            | int j => exact ⟨i, j, rfl, u1.1, k _ _ _ _ _ t1 m1 itr_rng u1.2⟩
            | _ => exact u1.elim
          | _ => cases r2 <;> exact u1.elim
        | cons _ _ => cases r <;> cases r2 <;> exact u1.elim⟩

/-! ### for, while -/
/-- some slots forgotten, some objects let go -/
def Nx (P : PSt → PHp → Prop) : PSt → PHp → Prop := fun σ M => ∃ σ0 M0, SubS σ0 σ ∧ Sub M0 M ∧ P σ0 M0
theorem Nx.of {P : PSt → PHp → Prop} {σ : PSt} {M : PHp} (h : P σ M) : Nx P σ M := ⟨σ, M, .refl _, .refl _, h⟩
@[reducible] def tFor (wi : TIp) (g : TGp) (tb : TSp) : TSp := fun D σ M => wi σ M fun items keep M1 => ∃ I : Nat → PSt → PHp → Prop, Nx (I 0) σ M1 ∧ (∀ i σ M, I i σ M → keep M) ∧
  (∀ i x σ M, items[i]? = some x → I i σ M → g x σ M fun σ2 M2 => tb { nx := Nx (I (i + 1)), ct := Nx (I (i + 1)), bk := D.nx, rt := D.rt } σ2 M2) ∧ ∀ σ M, I items.length σ M → D.nx σ M
theorem psfor {iter tg : Expr} {body : List Stmt} {wi : TIp} {g : TGp} {tb : TSp} (hp : PassesOwn (model X.prog X.w) X.A X.env X.xe) (hc : X.calm = true) (hi : PIp' X H0 tg iter wi) (hg : PGp X H0 tg g) (hb : PSsp X H0 body tb) (hs : ∀ x, foldedSetIterable iter X.env x = pure x := by intro _; rfl) :
    PSp' X H0 (.For tg iter body [] pos) (tFor wi g tb) := by
  refine psW (ps_for hp hc hi hg hb hs) fun D σ H ⟨σp, M, Dp, t, s, m, u, k⟩ => ⟨σp, M, _, t, s, m, u, fun J H1 items keep M1 t1 m1 it u1 => ?_⟩
  obtain ⟨I, h0, hk, hs, hd⟩ := u1
  obtain ⟨σ00, M00, ss0, sm0, h0⟩ := h0
  refine ⟨fun i n σ' H' => n = items.length - i ∧ i ≤ items.length ∧ ∃ σq Mq, Tk X.K H1 H' ∧ RelS X.K H' σq σ' ∧ RelM X.K H' Mq ∧ I i σq Mq, ⟨_, rfl, Nat.zero_le _, σ00, M00, Tk.refl _ _, (s.mono t1).sub ss0, m1.sub sm0, h0⟩, ?_⟩
  rintro i n σ' H' ⟨rfl, hi, σq, Mq, tq, sq, mq, hI⟩
  by_cases hlt : i < items.length
  · refine .inr ⟨it.go i H' Mq tq mq (hk _ _ _ hI) hlt, fun σ2 H2 => i + 1 ≤ items.length ∧ ∃ σq Mq, Tk X.K H1 H2 ∧ RelS X.K H2 σq σ2 ∧ RelM X.K H2 Mq ∧ I (i + 1) σq Mq, fun σ2 H2 h => ⟨items.length - (i + 1), by omega, rfl, h.1, h.2⟩, fun x H2 y => ?_⟩
    obtain ⟨p, e1, r1, t2, mm⟩ := it.yld i H' Mq x H2 tq mq (hk _ _ _ hI) hlt y
    refine ⟨p, σq, Mq, _, t.trans (t1.trans (tq.trans t2)), r1, sq.mono t2, mm _ mq, hs i p σq Mq e1 hI, fun σ3 H3 σp3 M3 t3 s3 m3 u3 => ?_⟩
    refine ⟨σp3, M3, _, t.trans (t1.trans (tq.trans (t2.trans t3))), s3, m3, u3, ⟨fun σ4 H4 σp4 M4 t4 s4 m4 u4 => ?_, fun v H4 p4 M4 t4 => k.rt v H4 p4 M4 (t1.trans (tq.trans (t2.trans (t3.trans t4)))), fun σ4 H4 p4 M4 t4 => k.nx σ4 H4 p4 M4 (t1.trans (tq.trans (t2.trans (t3.trans t4)))), fun σ4 H4 σp4 M4 t4 s4 m4 u4 => ?_⟩⟩
    all_goals
      obtain ⟨σ0, M0, ss, sm, hI2⟩ := u4
      exact ⟨hlt, σ0, M0, tq.trans (t2.trans (t3.trans t4)), s4.sub ss, m4.sub sm, hI2⟩
  · have e : i = items.length := by omega
    subst e
    exact .inl ⟨it.stop H' Mq tq mq (hk _ _ _ hI), k.nx _ _ _ _ (t1.trans tq) sq mq (hd _ _ hI)⟩
@[reducible] def tWhile (c : TTp) (tb : TSp) : TSp := fun D σ M => ∃ W : Nat → PSt → PHp → Prop, (∃ n, Nx (W n) σ M) ∧ ∀ n σ M, W n σ M →
  c σ M fun b M1 => br b (tb { nx := fun σ' M' => ∃ n', n' < n ∧ Nx (W n') σ' M', ct := fun σ' M' => ∃ n', n' < n ∧ Nx (W n') σ' M', bk := D.nx, rt := D.rt } σ M1) (D.nx σ M1)
theorem pswhile {c : Expr} {body : List Stmt} {tc : TTp} {tb : TSp} (hp : PassesOwn (model X.prog X.w) X.A X.env X.xe) (hc : PTp X H0 c tc) (hb : PSsp X H0 body tb) : PSp' X H0 (.While c body [] pos) (tWhile tc tb) := by
  refine psW (ps_while hp hc hb) fun D σ H ⟨σp, M, Dp, t, s, m, u, k⟩ => ?_
  obtain ⟨W, ⟨n0, h0⟩, hs⟩ := u
  obtain ⟨σ00, M00, ss0, sm0, h0⟩ := h0
  refine ⟨fun n σ' H' => ∃ σq Mq, Tk X.K H H' ∧ RelS X.K H' σq σ' ∧ RelM X.K H' Mq ∧ W n σq Mq, ⟨n0, σ00, M00, Tk.refl _ _, s.sub ss0, m.sub sm0, h0⟩, ?_⟩
  rintro n σ' H' ⟨σq, Mq, tq, sq, mq, hW⟩
  refine ⟨σq, Mq, _, t.trans tq, sq, mq, hs n σq Mq hW, fun b H2 M2 t2 m2 u2 => br_imp u2 (fun q => ?_) fun q => k.nx _ _ _ _ (tq.trans t2) (sq.mono t2) m2 q⟩
  refine ⟨fun σ3 H3 => ∃ n', n' < n ∧ ∃ σq Mq, Tk X.K H H3 ∧ RelS X.K H3 σq σ3 ∧ RelM X.K H3 Mq ∧ W n' σq Mq, fun σ3 H3 h => h, σq, M2, _, t.trans (tq.trans t2), sq.mono t2, m2, q, ⟨fun σ4 H4 σp4 M4 t4 s4 m4 u4 => ?_, fun v H4 p4 M4 t4 => k.rt v H4 p4 M4 (tq.trans (t2.trans t4)), fun σ4 H4 p4 M4 t4 => k.nx σ4 H4 p4 M4 (tq.trans (t2.trans t4)), fun σ4 H4 σp4 M4 t4 s4 m4 u4 => ?_⟩⟩
  all_goals
    obtain ⟨n', hn, σ0, M0, ss, sm, h2⟩ := u4
    exact ⟨n', hn, σ0, M0, tq.trans (t2.trans t4), s4.sub ss, m4.sub sm, h2⟩

/-! ### defs and their calls -/
abbrev PSpec := List PV → PHp → PVK → PXK → Prop
def concF (K : Kf) (psp : PSpec) : Sp := fun vs H Q E => ∃ ps M Qp Ep, Reps K H ps vs ∧ RelM K H M ∧ psp ps M Qp Ep ∧ (∀ v H' p M', Tk K H H' → RelM K H' M' → Rep K H' p v → Qp p M' → Q v H') ∧ ∀ cls d H' M', Tk K H H' → RelM K H' M' → Ep cls d M' → E cls d H'
/-- a def that may be called -/
structure Callee (P : Program) (w : World) (K : Kf) (mg : Str → Option Value) (base : Heap) (k : Nat) (x : Str) (ps : List Str) (psp : PSpec) : Prop where
  ex : ∃ f fd, FnOk P w K mg base CX0 k f fd ps (concF K psp) ∧ mg x = some (.ref f) ∧ PySem.W.keepIn K (.ref f) = true ∧ Binds K fd ps []
theorem Callee.mono {P : Program} {w : World} {mg : Str → Option Value} {base : Heap} {j k : Nat} {x : Str} {ps : List Str} {psp : PSpec} (h : Callee P w K mg base j x ps psp) (l : j ≤ k) : Callee P w K mg base k x ps psp := by
  obtain ⟨f, fd, F, r⟩ := h.ex
  exact ⟨⟨f, fd, F.mono l, r⟩⟩
theorem Callee.imp {P : Program} {w : World} {mg : Str → Option Value} {base : Heap} {k : Nat} {x : Str} {ps : List Str} {psp psp' : PSpec} (h : Callee P w K mg base k x ps psp) (l : ∀ vs M Q E, psp' vs M Q E → psp vs M Q E) : Callee P w K mg base k x ps psp' := by
  obtain ⟨f, fd, F, r⟩ := h.ex
  exact ⟨⟨f, fd, F.imp fun vs H Q E ⟨ps, M, Qp, Ep, h1, h2, h3, h4⟩ => ⟨ps, M, Qp, Ep, h1, h2, l _ _ _ _ h3, h4⟩, r⟩⟩
@[reducible] def tCall (psp : PSpec) (ta : TAp) : TEp := fun σ M Q => ta σ M fun ps M1 => psp ps M1 Q fun _ _ _ => False
variable {e : Expr} {es : List Expr} {te : TEp} {ta : TAp}
theorem call_conc {psp : PSpec} {σ : L2.St} {H : Hp} {Q : VK} (h : concE K H0 (tCall psp ta) σ H Q) : L2.tCall (concF K psp) [] E0 (concA K H0 ta) σ H Q := by
  obtain ⟨σp, M, Qp, t, s, m, u, k⟩ := h
  refine ⟨σp, M, _, t, s, m, u, fun vs H1 ps M1 t1 m1 rs u1 => ?_⟩
  show concF K psp (vs ++ []) H1 Q E0
  rw [List.append_nil]
  exact ⟨ps, M1, Qp, _, rs, m1, u1, fun v H2 p M2 t2 => k v H2 p M2 (t1.trans t2), fun _ _ _ _ _ _ z => z⟩
theorem pcall {k : Nat} {x : Str} {ps : List Str} {psp : PSpec} {p : Pos} (C : Callee X.prog X.w X.K X.mg X.base k x ps psp) (hr : Room k X.A) (ha : PAp X H0 (e :: es) ta) (hg : Gl X x := by rfl) (hd : (x == ("__debug__" : Str)) = false := by decide)
    (he : starEach (e :: es) X.env = (false, eval e X.env) :: starEach es X.env := by rfl) (hpl : (backTo pos (starEach es X.env)).any (·.1) = false := by rfl) : PEp X H0 (.Call (.Name x p) (e :: es) [] pos) (tCall psp ta) := by
  obtain ⟨f, fd, F, hm, hk, hb⟩ := C.ex
  exact peW (pe_call F hr hg hm hk hb .nil pass0 ha hd he hpl) fun σ H Q h => call_conc h
theorem pcall0 {k : Nat} {x : Str} {psp : PSpec} {p : Pos} (C : Callee X.prog X.w X.K X.mg X.base k x [] psp) (hr : Room k X.A) (hg : Gl X x := by rfl) (hd : (x == ("__debug__" : Str)) = false := by decide) : PEp X H0 (.Call (.Name x p) [] [] pos) (tCall psp tNil) := by
  obtain ⟨f, fd, F, hm, hk, hb⟩ := C.ex
  refine peW (pe_call0 F hr hg hm hk hb .nil pass0 hd) fun σ H Q ⟨σp, M, Qp, t, s, m, u, k⟩ => ?_
  exact ⟨[], M, Qp, _, .nil, m, u, k, fun _ _ _ _ _ _ z => z⟩
/-- where a def of the text stands -/
structure Here (K : Kf) (mg : Str → Option Value) (x : Str) (st : Stmt) (ps : List Str) : Prop where
  ex : ∃ f fd, Fun K x x st f fd ∧ mg x = some (.ref f) ∧ Binds K fd ps []
def startP (N : List Str) (vs : List PV) : PSt := vs.map some ++ List.replicate (N.length - vs.length) none
theorem startP_rel {H : Hp} : ∀ {ps : List PV} {vs : List V}, Reps K H ps vs → ∀ N : List Str, RelS K H (startP N ps) (L2.start N vs) := by
  intro ps vs r N
  unfold startP L2.start
  rw [r.length]
  have tail : ∀ n : Nat, RelS K H (List.replicate n none) (List.replicate n none) := fun n => by
    induction n with
    | zero => exact .nil
    | succ n ih => exact .no ih
  generalize N.length - vs.length = n
  induction r using Reps.rec (motive_1 := fun _ _ _ => True) with
  | nil => exact tail n
  | cons a b _ ih => exact .yes a ih
  | _ => trivial
def ends (Q : PVK) : PEnds := { nx := fun _ M' => ∃ M0, Sub M0 M' ∧ Q .non M0, rt := fun v M' => ∃ M0, Sub M0 M' ∧ Q v M0 }
abbrev defCx (P : Program) (w : World) (K : Kf) (mg : Str → Option Value) (base : Heap) (N : List Str) (x : Str) (st : Stmt) (f : Addr) (cdv : Value) (A : Around) (outer : List Env) (s : Shared) (H : Hp) (E : XK) : Cx :=
  (cxOf CX0 P w K mg base N x (defScope st) f cdv A outer s H E).nox
theorem ok_of {P : Program} {w : World} {mg : Str → Option Value} {base : Heap} {k : Nat} {x : Str} {st : Stmt} {N ps : List Str} {psp : PSpec} (h : Here K mg x st ps) (S : FnScope N ps (defScope st)) (len : ∀ vs M Q E, psp vs M Q E → vs.length = ps.length)
    (body : ∀ f cdv A outer s H E, Room k (defCx P w K mg base N x st f cdv A outer s H E).A → ∃ t, PSsp (defCx P w K mg base N x st f cdv A outer s H E) H (defBody st) t ∧ ∀ vs M Q Ep, psp vs M Q Ep → t (ends Q) (startP N vs) M) :
    Callee P w K mg base (k + 1) x ps psp := by
  obtain ⟨f, fd, F, hm, hb⟩ := h.ex
  refine ⟨⟨f, fd, F.ok S (fun vs H Q E h => ?_) (fun cdv A outer s H vs Q E hr h => ?_), hm, F.kp, hb⟩⟩
  · obtain ⟨qs, M, Qp, Ep, r, m, u, _⟩ := h
    rw [← r.length]
    exact len _ _ _ _ u
  · obtain ⟨qs, M, Qp, Ep, r, m, u, k1, k2⟩ := h
    obtain ⟨t, d, b⟩ := body f cdv A outer s H E hr
    refine ⟨_, d, startP N qs, M, ends Qp, Tk.refl _ _, startP_rel r N, m, b _ _ _ _ u, ⟨fun σ' H' σp' M' t1 s1 m1 q => ?_, fun v H' p M' t1 m1 r1 q => ?_, fun _ _ _ _ _ _ _ z => z.elim, fun _ _ _ _ _ _ _ z => z.elim⟩⟩
    · obtain ⟨M0, sb, q⟩ := q
      exact k1 _ _ _ _ t1 (m1.sub sb) .non q
    · obtain ⟨M0, sb, q⟩ := q
      exact k1 _ _ _ _ t1 (m1.sub sb) r1 q
end
end PL

set_option Elab.async false
set_option linter.all false
set_option maxRecDepth 100000
set_option maxHeartbeats 2000000
/-! PL5: comprehensions, max, methods of lists. -/
namespace PL
open PySem L2
section
variable {X : Cx} {H0 : Hp} {pos : Pos} {K : Kf}
/-! ### comprehensions -/
def wipeP (σ : PSt) : List Nat → PSt
  | [] => σ
  | i :: r => (wipeP σ r).set i none
theorem RelS.wipe1 {H : Hp} : ∀ {σ : PSt} {τ : L2.St} (i : Nat), RelS K H σ τ → RelS K H (σ.set i none) (τ.set i none)
  | _, _, _, .nil => .nil
  | _, _, 0, .no t => .no t
  | _, _, 0, .yes _ t => .no t
  | _, _, i + 1, .no t => .no (RelS.wipe1 i t)
  | _, _, i + 1, .yes q t => .yes q (RelS.wipe1 i t)
theorem RelS.wipe {H : Hp} {σ : PSt} {τ : L2.St} (s : RelS K H σ τ) : ∀ vs : List Nat, RelS K H (wipeP σ vs) (L2.wipe τ vs)
  | [] => s
  | i :: r => (RelS.wipe s r).wipe1 i
/-- the tests of a comprehension -/
abbrev PTsp (X : Cx) (H0 : Hp) (ifs : List Expr) (u : TTp) : Prop := PTs X ifs (concT X.K H0 u)
@[reducible] def tYes : TTp := fun _ M Q => Q true M
theorem ptsnil : PTsp X H0 [] tYes := ⟨fun pins s σ H Q I ⟨_, M, _, _, _, m, u, k⟩ => pts_nil.run pins s σ H Q I (k true H M (Tk.refl _ _) m u)⟩
theorem ptsone {c : Expr} {t : TTp} (h : PTp X H0 c t) : PTsp X H0 [c] t := pts_one h
/-- what a turn gives: Dl the list that grows -/
@[reducible] def LcTurn (vs : List Nat) (σ0 : PSt) (tt : TTp) (te : TEp) (Dl : Addr) (acc : List PV) (I : List PV → PHp → Prop) : PSt → PHp → Prop := fun σ2 M2 => tt σ2 M2 fun b M3 => br b (te σ2 M3 fun y M4 => M4 Dl = some (.lst acc) ∧ acc.length < sizeLine ∧ ∃ M5, Sub M5 (updM M4 Dl (.lst (acc ++ [y]))) ∧ I (acc ++ [y]) M5) (∃ M5, Sub M5 M3 ∧ I acc M5)
/-- I: by the turn, the list so far and the heap; the list stands at Dl -/
@[reducible] def tLc1 (wi : TIp) (j : Nat) (tt : TTp) (te : TEp) (vs : List Nat) : TEp := fun σ M Q => wi σ M fun items keep M1 => ∀ Dl, M1 Dl = none → ∃ I : Nat → List PV → PHp → Prop, (∃ M5, Sub M5 (updM M1 Dl (.lst [])) ∧ I 0 [] M5) ∧
  (∀ i acc M, I i acc M → keep M) ∧ (∀ i x acc M, items[i]? = some x → I i acc M → LcTurn vs σ tt te Dl acc (I (i + 1)) ((wipeP σ vs).set j (some x)) M) ∧ ∀ acc M, I items.length acc M → Q (.ref Dl) M
theorem wipe_set (σ : L2.St) (j : Nat) (x : Option V) : ∀ vs : List Nat, j ∈ vs → L2.wipe (σ.set j x) vs = L2.wipe σ vs
  | [], h => by cases h
  | i :: r, h => by
    show (L2.wipe (σ.set j x) r).set i none = (L2.wipe σ r).set i none
    by_cases hj : j ∈ r
    · rw [wipe_set σ j x r hj]
    · have e : j = i := by rcases List.mem_cons.mp h with h | h; exact h; exact absurd h hj
      subst e
      have key : ∀ (r : List Nat) (σ : L2.St), j ∉ r → L2.wipe (σ.set j x) r = (L2.wipe σ r).set j x := by
        intro r
        induction r with
        | nil => intro σ _; rfl
        | cons a r ih =>
          intro σ hn
          have n1 : j ≠ a := fun q => hn (q ▸ List.mem_cons_self)
          have n2 : j ∉ r := fun q => hn (List.mem_cons_of_mem _ q)
          show (L2.wipe (σ.set j x) r).set a none = ((L2.wipe σ r).set a none).set j x
          rw [ih σ n2, List.set_comm _ _ n1]
      rw [key r σ hj, List.set_set]
theorem wipe_wipe (σ : L2.St) (vs : List Nat) : L2.wipe (L2.wipe σ vs) vs = L2.wipe σ vs := by
  apply List.ext_getElem?
  intro i
  by_cases hi : i ∈ vs
  · have h : ∀ (τ : L2.St), τ.length = σ.length → (L2.wipe τ vs)[i]? = if i < σ.length then some none else none := by
      intro τ hτ
      have key : ∀ (r : List Nat), i ∈ r → (L2.wipe τ r)[i]? = if i < τ.length then some none else none := by
        intro r
        induction r with
        | nil => intro h; cases h
        | cons a r ih =>
          intro h
          show ((L2.wipe τ r).set a none)[i]? = _
          rw [List.getElem?_set, L2.wipe_length]
          by_cases e : a = i
          · subst e; rw [if_pos rfl]
          · rw [if_neg e]
            exact ih (by rcases List.mem_cons.mp h with q | q; exact absurd q.symm e; exact q)
      rw [key vs hi, hτ]
    rw [h _ (L2.wipe_length σ vs), h σ rfl]
  · rw [L2.wipe_out hi]
/-- one name for the target -/
theorem lc1_conc {j : Nat} {vs : List Nat} {wi : TIp} {tt : TTp} {te : TEp} (hj : j ∈ vs) {σ : L2.St} {H : Hp} {Q : VK} (h : concE K H0 (tLc1 wi j tt te vs) σ H Q) :
    L2.tLc (concI K H0 wi) (L2.gName j) (concT K H0 tt) (concE K H0 te) vs σ H Q := by
  obtain ⟨σp, M, Qp, t, s, m, u, k⟩ := h
  refine ⟨σp, M, _, t, s, m, u, fun J H1 items keep M1 t1 m1 it u1 Dl hD => ?_⟩
  obtain ⟨I, ⟨M50, sb0, h0⟩, hk, hs, hd⟩ := u1 Dl (m1.fresh hD)
  have tn : Tk K H1 (upd H1 Dl (.lst [])) := .new hD
  have mn : RelM K (upd H1 Dl (.lst [])) (updM M1 Dl (.lst [])) := m1.put (m := .lst []) tn ⟨[], upd_same, .nil⟩
  refine ⟨fun i n H' => n = items.length - i ∧ i ≤ items.length ∧ ∃ acc Mq, Tk K H1 H' ∧ RelM K H' Mq ∧ I i acc Mq, ⟨_, rfl, Nat.zero_le _, [], M50, tn, mn.sub sb0, h0⟩, ?_⟩
  rintro i n H' ⟨rfl, hi, acc, Mq, tq, mq, hI⟩
  by_cases hlt : i < items.length
  · refine .inr ⟨it.go i H' Mq tq mq (hk _ _ _ hI) hlt, fun H2 => i + 1 ≤ items.length ∧ ∃ acc Mq, Tk K H1 H2 ∧ RelM K H2 Mq ∧ I (i + 1) acc Mq, fun H2 h => ⟨items.length - (i + 1), by omega, rfl, h.1, h.2⟩, fun x H2 y => ?_⟩
    obtain ⟨p, e1, r1, t2, mm⟩ := it.yld i H' Mq x H2 tq mq (hk _ _ _ hI) hlt y
    have hw : L2.wipe ((L2.wipe σ vs).set j (some x)) vs = L2.wipe σ vs := by
      rw [wipe_set _ _ _ _ hj, wipe_wipe]
    refine ⟨hw, (wipeP σp vs).set j (some p), Mq, _, t.trans (t1.trans (tq.trans t2)), ((s.mono (t1.trans (tq.trans t2))).wipe _).set r1 j, mm _ mq, hs i p acc Mq e1 hI, fun b H3 M3 t3 m3 u3 => br_imp u3 (fun q => ?_) fun q => ?_⟩
    · refine ⟨_, M3, _, t.trans (t1.trans (tq.trans (t2.trans t3))), ((s.mono (t1.trans (tq.trans (t2.trans t3)))).wipe _).set (r1.mono t3) j, m3, q, fun v H4 p4 M4 t4 m4 r4 q4 => ?_⟩
      obtain ⟨q1, q2, M5, sb, q5⟩ := q4
      obtain ⟨vs4, e4, r5⟩ := m4 _ _ q1
      obtain ⟨tk, m6⟩ := Tk_set (l := acc) m4 e4 (r5.snoc r4)
      exact ⟨vs4, e4, by rw [← r5.length]; exact q2, hlt, _, M5, tq.trans (t2.trans (t3.trans (t4.trans tk))), m6.sub sb, q5⟩
    · obtain ⟨M5, sb, q5⟩ := q
      exact ⟨hlt, _, M5, tq.trans (t2.trans t3), m3.sub sb, q5⟩
  · have e : i = items.length := by omega
    subst e
    exact .inl ⟨it.stop H' Mq tq mq (hk _ _ _ hI), k _ _ _ _ (t1.trans tq) mq (.ref Dl) (hd _ _ hI)⟩
section
variable {elt iter : Expr} {x : Str} {xpos : Pos} {ifs : List Expr} {scope : Scope} {own : List (Str × Nat)} {wi : TIp} {tt : TTp} {te : TEp}
theorem plc1 (j : Nat) (hc : X.calm = true) (hN : X.N.Nodup) (hi : PIp' X H0 (.Name x xpos) iter wi) (ok : BlkOk X.N X.env.scope scope own) (hj : j ∈ own.map (·.2))
    (hg : ∀ (s : Shared) (H : Hp) (C : Addr) (cl : List (Str × Addr)) (fp : List Addr), PG (X.blk s H scope (compEnvC scope cl C X.env) fp) (.Name x xpos) (L2.gName j))
    (ht : ∀ (s : Shared) (H : Hp) (C : Addr) (cl : List (Str × Addr)) (fp : List Addr), PTsp (X.blk s H scope (compEnvC scope cl C X.env) fp) H0 ifs tt)
    (he : ∀ (s : Shared) (H : Hp) (C : Addr) (cl : List (Str × Addr)) (fp : List Addr), PEp (X.blk s H scope (compEnvC scope cl C X.env) fp) H0 elt te) (hs : ∀ x, foldedSetIterable iter X.env x = pure x := by intro _; rfl) :
    PEp X H0 (.ListComp elt [⟨.Name x xpos, iter, ifs, 0⟩] scope pos) (tLc1 wi j tt te (own.map (·.2))) :=
  peW (pe_lc (tt := concT X.K H0 tt) (te := concE X.K H0 te) hc hN hi ok hg ht he hs) fun σ H Q h => lc1_conc hj h
/-- y = [..] on one line -/
theorem pssetlc1 (i j : Nat) {y : Str} {py spos : Pos} (hc : X.calm = true) (hN : X.N.Nodup) (hyl : X.env.scope.names.lookup y = some .local)
    (hsw : swapsWith (.ListComp elt [⟨.Name x xpos, iter, ifs, 0⟩] scope pos) (some (.Name y py)) spos.line X.env = pure true) (hi : PIp' X H0 (.Name x xpos) iter wi) (ok : BlkOk X.N X.env.scope scope own) (hj : j ∈ own.map (·.2))
    (hg : ∀ (s : Shared) (H : Hp) (C : Addr) (cl : List (Str × Addr)) (fp : List Addr), PG (X.blk s H scope (compEnvC scope cl C X.env) fp) (.Name x xpos) (L2.gName j))
    (ht : ∀ (s : Shared) (H : Hp) (C : Addr) (cl : List (Str × Addr)) (fp : List Addr), PTsp (X.blk s H scope (compEnvC scope cl C X.env) fp) H0 ifs tt)
    (he : ∀ (s : Shared) (H : Hp) (C : Addr) (cl : List (Str × Addr)) (fp : List Addr), PEp (X.blk s H scope (compEnvC scope cl C X.env) fp) H0 elt te) (hy : X.N[i]? = some y := by rfl) (hs : ∀ x, foldedSetIterable iter X.env x = pure x := by intro _; rfl) :
    PSp' X H0 (.Assign [.Name y py] (.ListComp elt [⟨.Name x xpos, iter, ifs, 0⟩] scope pos) spos) (tAsg (tLc1 wi j tt te (own.map (·.2))) (gName i)) :=
  psW (ps_setLc (tt := concT X.K H0 tt) (te := concE X.K H0 te) hc hN hy hyl hsw hi ok hg ht he hs) fun D σ H ⟨σp, M, Dp, t, s, m, u, k⟩ =>
    lc1_conc hj ⟨σp, M, _, t, s, m, u, fun v H1 p M1 t1 m1 r u1 => k.nx _ _ _ _ t1 ((s.mono t1).set r i) m1 u1⟩
end

end
end PL

set_option Elab.async false
set_option linter.all false
set_option maxRecDepth 100000
set_option maxHeartbeats 2000000
/-! PL6: max, min, sum; methods of lists; the end of a law. -/
namespace PLraw
open PySem PySem.Spec PySem.Calls PyProof.Rows
section
variable {prog : Program} {w : World} {A : Around} {E : Value → Shared → Prop} {s : Shared} {l : Addr} {us : List Value} {ms : List Int} {Q : Value → Shared → Prop}
/-- a tuple of whole numbers, as numbers with their tokens -/
theorem as_items (hl : s.heap.IsTuple l us.toArray) (hi : IntsAre us ms) : ∃ xs : Array (Int × Tok), s.heap.IsTuple l (intItems xs) ∧ numsOf (intItems xs).toList = ms := by
  obtain ⟨xs, q⟩ := hi.allInts.items
  exact ⟨xs, q ▸ hl, q ▸ hi.numsOf⟩
theorem sum_tup (hh : A.handled = none) (hl : s.heap.IsTuple l us.toArray) (hi : IntsAre us ms)
    (k : ∀ g tk t, (∀ b o, s.heap.get? b = some o → g.get? b = some o) → Q (.int ms.sum t) { s with heap := g, toks := tk }) : wpAny (model prog w) A (call (.builtin "sum") [.ref l]) Q E s := by
  obtain ⟨xs, ht, hn⟩ := as_items hl hi
  rw [nums_intItems] at hn
  exact PySem.W.ktm_sumG hh ht fun g tk t old => by
    have z := k g tk t old
    rwa [preSum_eq, List.take_of_length_le (by simp), hn]
/-- what an iterator over a tuple starts from -/
theorem starts {xs : Array Value} (ht : s.heap.IsTuple l xs) : l ≠ s.heap.objs.size ∧ ∀ (o : Obj) (b : Addr), b ∈ [s.heap.objs.size, l] → b < (s.heap.push o).objs.size := by
  obtain ⟨u, hu, _⟩ := ht
  have h := Heap.lt_size hu
  refine ⟨Nat.ne_of_lt h, fun o b hb => ?_⟩
  rw [Heap.size_push]
  have two : b = s.heap.objs.size ∨ b = l := by simpa using hb
  rcases two with e | e <;> subst e
  · exact Nat.lt_succ_self _
  · exact Nat.lt_succ_of_lt h
theorem old_of {g : Heap} {o : Obj} (hk : ∀ b u, b ∉ [s.heap.objs.size] → (s.heap.push o).get? b = some u → g.get? b = some u) : ∀ b u, s.heap.get? b = some u → g.get? b = some u := fun b u e =>
  hk b u (fun hb => by
    have h := Heap.lt_size e
    rw [List.mem_singleton.mp hb] at h
    exact Nat.lt_irrefl _ h) (Heap.get?_push_of_some _ e)
theorem num_mem {xs : Array (Int × Tok)} (i : Nat) (hi : i < xs.size) : numAt xs i ∈ xs.toList.map (·.1) := by
  rw [numAt_eq]
  refine PySem.getD_mem ?_
  rw [List.length_map, Array.length_toList]; exact hi
theorem num_all {xs : Array (Int × Tok)} {P : Int → Prop} (h : ∀ i, i < xs.size → P (numAt xs i)) : ∀ a ∈ xs.toList.map (·.1), P a := fun a ha => by
  obtain ⟨i, hi, rfl⟩ := mem_getD ha
  rw [List.length_map, Array.length_toList] at hi
  rw [← numAt_eq]; exact h i hi
theorem max_tup (hh : A.handled = none) (hl : s.heap.IsTuple l us.toArray) (hi : IntsAre us ms) (ne : 0 < ms.length)
    (k : ∀ g tk m t, (∀ b o, s.heap.get? b = some o → g.get? b = some o) → m ∈ ms → (∀ a, a ∈ ms → a ≤ m) → Q (.int m t) { s with heap := g, toks := tk }) : wpAny (model prog w) A (call (.builtin "max") [.ref l]) Q E s := by
  obtain ⟨xs, ht, hn⟩ := as_items hl hi
  rw [nums_intItems] at hn
  have many : 0 < xs.size := by rw [← hn] at ne; simpa using ne
  obtain ⟨apart, st⟩ := starts ht
  refine call_max_walk (wpAny_pyIter_tuple ht ⟨s.heap.objs.size, _, _, _, _, _, _, rfl, Walks.tuple (A := A.in1) hh _ l apart (intItems xs), ⟨⟨_, Heap.get?_push_size _ rfl, rfl, rfl⟩, ht.push _⟩, fun b hb => ?_, ?_, CmpOf.ints_gt (numAt xs) fun _ _ => intItems_at, fun v g tk hv old => ?_⟩)
  · exact st _ b hb
  · simpa [intItems] using many
  · obtain ⟨t, rfl⟩ := intItems_at (show (intItems xs)[argBest (fun i j => decide (numAt xs i > numAt xs j)) (xs.size - 1)]? = some v by simpa [intItems] using hv)
    have best := argBest_gt (numAt xs) (xs.size - 1)
    refine k g tk _ t (old_of old) (hn ▸ num_mem _ (by omega)) fun a ha => ?_
    rw [← hn] at ha
    exact num_all (P := fun a => a ≤ _) (fun i hi => best.2 i (by omega)) a ha
theorem min_tup (hh : A.handled = none) (hl : s.heap.IsTuple l us.toArray) (hi : IntsAre us ms) (ne : 0 < ms.length)
    (k : ∀ g tk m t, (∀ b o, s.heap.get? b = some o → g.get? b = some o) → m ∈ ms → (∀ a, a ∈ ms → m ≤ a) → Q (.int m t) { s with heap := g, toks := tk }) : wpAny (model prog w) A (call (.builtin "min") [.ref l]) Q E s := by
  obtain ⟨xs, ht, hn⟩ := as_items hl hi
  rw [nums_intItems] at hn
  have many : 0 < xs.size := by rw [← hn] at ne; simpa using ne
  obtain ⟨apart, st⟩ := starts ht
  refine call_min_walk (wpAny_pyIter_tuple ht ⟨s.heap.objs.size, _, _, _, _, _, _, rfl, Walks.tuple (A := A.in1) hh _ l apart (intItems xs), ⟨⟨_, Heap.get?_push_size _ rfl, rfl, rfl⟩, ht.push _⟩, fun b hb => ?_, ?_, CmpOf.ints_lt (numAt xs) fun _ _ => intItems_at, fun v g tk hv old => ?_⟩)
  · exact st _ b hb
  · simpa [intItems] using many
  · obtain ⟨t, rfl⟩ := intItems_at (show (intItems xs)[argBest (fun i j => decide (numAt xs i < numAt xs j)) (xs.size - 1)]? = some v by simpa [intItems] using hv)
    have best := argBest_lt (numAt xs) (xs.size - 1)
    refine k g tk _ t (old_of old) (hn ▸ num_mem _ (by omega)) fun a ha => ?_
    rw [← hn] at ha
    exact num_all (P := fun a => _ ≤ a) (fun i hi => best.2 i (by omega)) a ha
end
end PLraw
namespace PL
open PySem L2
section
variable {X : Cx} {H0 : Hp} {pos : Pos} {K : Kf}
def rSumT (K : Kf) : List V → Hp → VK → Prop := fun vs H Q => ∃ (a : Addr) (ns : List Int), vs = [V.ref a] ∧ SqT K H a (ns.map V.int) ∧ Q (.int ns.sum) H
theorem cr_sumT (hc : X.calm = true) : CallR X (.builtin "sum") (rSumT X.K) := by
  rintro pins s σ H vs us Q I r ⟨a, ns, rfl, here, q⟩
  obtain ⟨_, rv, tup, _⟩ := I.tuple here
  exact Vals.ref1 r ▸ PLraw.sum_tup (I.ok.hd hc) tup rv.ints fun _ _ _ old => ⟨.int _, H, I.kept old, ⟨_, rfl⟩, q⟩
def rMaxT (K : Kf) : List V → Hp → VK → Prop := fun vs H Q => ∃ (a : Addr) (ns : List Int), vs = [V.ref a] ∧ SqT K H a (ns.map V.int) ∧ 0 < ns.length ∧ ∀ m, m ∈ ns → (∀ y, y ∈ ns → y ≤ m) → Q (.int m) H
theorem cr_maxT (hc : X.calm = true) : CallR X (.builtin "max") (rMaxT X.K) := by
  rintro pins s σ H vs us Q I r ⟨a, ns, rfl, here, many, q⟩
  obtain ⟨_, rv, tup, _⟩ := I.tuple here
  exact Vals.ref1 r ▸ PLraw.max_tup (I.ok.hd hc) tup rv.ints many fun _ _ m _ old is most => ⟨.int _, H, I.kept old, ⟨_, rfl⟩, q m is most⟩
def rMinT (K : Kf) : List V → Hp → VK → Prop := fun vs H Q => ∃ (a : Addr) (ns : List Int), vs = [V.ref a] ∧ SqT K H a (ns.map V.int) ∧ 0 < ns.length ∧ ∀ m, m ∈ ns → (∀ y, y ∈ ns → m ≤ y) → Q (.int m) H
theorem cr_minT (hc : X.calm = true) : CallR X (.builtin "min") (rMinT X.K) := by
  rintro pins s σ H vs us Q I r ⟨a, ns, rfl, here, many, q⟩
  obtain ⟨_, rv, tup, _⟩ := I.tuple here
  exact Vals.ref1 r ▸ PLraw.min_tup (I.ok.hd hc) tup rv.ints many fun _ _ m _ old is most => ⟨.int _, H, I.kept old, ⟨_, rfl⟩, q m is most⟩
/-- of one list or tuple -/
def onInts (K : Kf) (c : List Int → (Int → Prop) → Prop) : RCp := fun xs M Q => match xs with
  | [.ref a] => ∃ ns : List Int, rdL K M a (ns.map PV.int) ∧ c ns fun m => Q (.int m) M
  | [.tup l] => ∃ ns : List Int, l = ns.map PV.int ∧ c ns fun m => Q (.int m) M
  | _ => False
theorem onInts_sim {c : List Int → (Int → Prop) → Prop} (hm : ∀ ns P P', (∀ m, P m → P' m) → c ns P → c ns P') : SimC K (fun xs H Q => (∃ (a : Addr) (ns : List Int), xs = [V.ref a] ∧ SqL K H a (ns.map V.int) ∧ c ns fun m => Q (.int m) H) ∨ ∃ (a : Addr) (ns : List Int), xs = [V.ref a] ∧ SqT K H a (ns.map V.int) ∧ c ns fun m => Q (.int m) H) (onInts K c) := by
  intro xs H ps M Q Qp rs m u k
  cases rs with
  | nil => exact u.elim
  | cons r rr => cases rr with
    | cons _ _ => cases r <;> exact u.elim
    | nil => cases r with
      | tup h r =>
        obtain ⟨ns, rfl, q⟩ := u
        have e := r.ints
        subst e
        exact .inr ⟨_, ns, rfl, h.t, hm _ _ _ (fun z q => k _ _ _ _ (Tk.refl _ _) m (.int z) q) q⟩
      | ref a =>
        obtain ⟨ns, h, q⟩ := u
        obtain ⟨vs, e, r⟩ := h.to m
        have e2 := r.ints
        subst e2
        exact .inl ⟨_, ns, rfl, e, hm _ _ _ (fun z q => k _ _ _ _ (Tk.refl _ _) m (.int z) q) q⟩
      | _ => exact u.elim
def sumC (ns : List Int) (P : Int → Prop) : Prop := P ns.sum
def maxC (ns : List Int) (P : Int → Prop) : Prop := 0 < ns.length ∧ ∀ m, m ∈ ns → (∀ y, y ∈ ns → y ≤ m) → P m
def minC (ns : List Int) (P : Int → Prop) : Prop := 0 < ns.length ∧ ∀ m, m ∈ ns → (∀ y, y ∈ ns → m ≤ y) → P m
abbrev sumP (K : Kf) : RCp := onInts K sumC
abbrev maxP (K : Kf) : RCp := onInts K maxC
abbrev minP (K : Kf) : RCp := onInts K minC
theorem cSum (hc : X.calm = true) : CallP X (.builtin "sum") (sumP X.K) := ⟨_, (cr_sum hc).or (cr_sumT hc), fun xs H ps M Q Qp rs m u k => (onInts_sim (c := sumC) (fun _ _ _ h q => h _ q)) xs H ps M Q Qp rs m u k⟩
theorem cMax (hc : X.calm = true) : CallP X (.builtin "max") (maxP X.K) := ⟨_, (cr_max hc).or (cr_maxT hc), fun xs H ps M Q Qp rs m u k => (onInts_sim (c := maxC) (fun _ _ _ h q => ⟨q.1, fun z a b => h _ (q.2 z a b)⟩)) xs H ps M Q Qp rs m u k⟩
theorem cMin (hc : X.calm = true) : CallP X (.builtin "min") (minP X.K) := ⟨_, (cr_min hc).or (cr_minT hc), fun xs H ps M Q Qp rs m u k => (onInts_sim (c := minC) (fun _ _ _ h q => ⟨q.1, fun z a b => h _ (q.2 z a b)⟩)) xs H ps M Q Qp rs m u k⟩
/-- max(a, b), min(a, b) -/
def twoI (g : Int → Int → Prop) : List PV → Prop
  | [.int i, .int j] => g i j
  | _ => False
def max2P : RCp := fun xs M Q => twoI (fun i j => Q (.int (if j > i then j else i)) M) xs
def min2P : RCp := fun xs M Q => twoI (fun i j => Q (.int (if j < i then j else i)) M) xs
theorem two_ints {xs : List V} {H : Hp} {ps : List PV} (rs : Reps K H ps xs) {A : Prop} (g : Int → Int → Prop) (u : twoI g ps) (h : ∀ i j, xs = [.int i, .int j] → g i j → A) : A := by
  cases rs with
  | nil => exact u.elim
  | cons r rr => cases rr with
    | nil => cases r <;> exact u.elim
    | cons r2 rr2 => cases rr2 with
      | cons _ _ => cases r <;> cases r2 <;> exact u.elim
      | nil => cases r with
        | int a => cases r2 with
          | int b => exact h a b rfl u
          | _ => exact u.elim
        | _ => cases r2 <;> exact u.elim
theorem cMax2 (hc : X.calm = true) : CallP X (.builtin "max") max2P := ⟨_, call_max2 hc, fun xs H ps M Q Qp rs m u k => two_ints rs (fun i j => Qp (.int (if j > i then j else i)) M) u fun i j e q => ⟨i, j, e, k _ _ _ _ (Tk.refl _ _) m (.int _) q⟩⟩
theorem cMin2 (hc : X.calm = true) : CallP X (.builtin "min") min2P := ⟨_, call_min2 hc, fun xs H ps M Q Qp rs m u k => two_ints rs (fun i j => Qp (.int (if j < i then j else i)) M) u fun i j e q => ⟨i, j, e, k _ _ _ _ (Tk.refl _ _) m (.int _) q⟩⟩

/-! ### methods of built-in types -/
abbrev RMp := PV → List PV → PHp → PVK → Prop
def tyP (K : Kf) (T : String) (x : PV) (M : PHp) : Prop := match x with
  | .str _ => T = "str"
  | .ref a => (T = "list" ∧ ∃ l, rdL K M a l) ∨ (T = "dict" ∧ ∃ kvs, M a = some (.dK kvs))
  | _ => False
theorem tyP_to {H : Hp} {M : PHp} (m : RelM K H M) {T : String} {p : PV} {v : V} (r : Rep K H p v) (h : tyP K T p M) : tyV K T v H := by
  cases r with
  | str z => exact h
  | ref a =>
    rcases h with ⟨h1, l, h2⟩ | ⟨h1, kvs, h2⟩
    · obtain ⟨vs, e, _⟩ := h2.to m
      exact .inl ⟨h1, vs, e⟩
    · obtain ⟨vs, e, _⟩ := m a _ h2
      exact .inr (.inr (.inl ⟨h1, .inl ⟨vs, e⟩⟩))
  | _ => exact h.elim
def MtP (X : Cx) (id : String) (u : RMp) : Prop := ∃ r, MtR X id r ∧ ∀ x xs H px ps M (Q : VK) (Qp : PVK), Rep X.K H px x → Reps X.K H ps xs → RelM X.K H M → u px ps M Qp → Kont X.K H Q Qp → r x xs H Q
@[reducible] def tBM (K : Kf) (T : String) (u : RMp) (to : TEp) (ta : TAp) : TEp := fun σ M Q => to σ M fun x M1 => tyP K T x M1 ∧ ta σ M1 fun ps M2 => u x ps M2 Q
@[reducible] def tBM0 (K : Kf) (T : String) (u : RMp) (to : TEp) : TEp := fun σ M Q => to σ M fun x M1 => tyP K T x M1 ∧ u x [] M1 Q
variable {o e : Expr} {es : List Expr} {to : TEp} {ta : TAp} {name : Str} {apos cpos : Pos} {T id : String} {u : RMp}
theorem pbm0 (pa : PlainAttrs T) (slot : Slot T name id) (hty : typeOf (.builtin id) = pure (.type "method_descriptor")) (hm : MtP X id u) (ho : PEp X H0 o to)
    (h1 : attributeBase o name X.env (eval o X.env) = eval o X.env := by rfl) (h3 : (apos.endLine == cpos.line) = true := by rfl) : PEp X H0 (.Call (.Attribute o name apos) [] [] cpos) (tBM0 X.K T u to) := by
  obtain ⟨r, g1, g2⟩ := hm
  exact peW (pe_bm0 pa slot hty g1 ho h1 h3) fun σ H Q ⟨σp, M, Qp, t, s, m, u, k⟩ => ⟨σp, M, _, t, s, m, u, fun x H1 px M1 t1 m1 rx u1 =>
    ⟨tyP_to m1 rx u1.1, g2 x [] H1 px [] M1 Q Qp rx .nil m1 u1.2 fun v H2 p M2 t2 => k v H2 p M2 (t1.trans t2)⟩⟩
theorem pbm (pa : PlainAttrs T) (slot : Slot T name id) (hty : typeOf (.builtin id) = pure (.type "method_descriptor")) (hm : MtP X id u) (ho : PEp X H0 o to) (ha : PAp X H0 (e :: es) ta)
    (h1 : attributeBase o name X.env (eval o X.env) = eval o X.env := by rfl)
    (h2 : (((backTo cpos (starEach (e :: es) X.env)).all (fun x => !x.1) && (backToKw cpos (keywordEach [] X.env)).all (fun x => x.1.isSome)) && decide ((e :: es).length + ([] : List Keyword).length + (if ([] : List Keyword).isEmpty then 0 else 1) < 30)) = true := by rfl)
    (h3 : (apos.endLine == cpos.line) = true := by rfl) (h4 : starEach (e :: es) X.env = (false, eval e X.env) :: starEach es X.env := by rfl) (h5 : (backTo cpos (starEach es X.env)).any (·.1) = false := by rfl) :
    PEp X H0 (.Call (.Attribute o name apos) (e :: es) [] cpos) (tBM X.K T u to ta) := by
  obtain ⟨r, g1, g2⟩ := hm
  exact peW (pe_bm pa slot hty g1 ho ha h1 h2 h3 h4 h5) fun σ H Q ⟨σp, M, Qp, t, s, m, u, k⟩ => ⟨σp, M, _, t, s, m, u, fun x H1 px M1 t1 m1 rx u1 =>
    ⟨tyP_to m1 rx u1.1, σp, M1, _, t.trans t1, s.mono t1, m1, u1.2, fun xs H2 ps M2 t2 m2 rs u2 => g2 x xs H2 px ps M2 Q Qp (rx.mono t2) rs m2 u2 fun v H3 p M3 t3 => k v H3 p M3 (t1.trans (t2.trans t3))⟩⟩
def appendP : RMp := fun x ps M Q => match x, ps with
  | .ref a, [p] => ∃ l, M a = some (.lst l) ∧ l.length < sizeLine ∧ Q .non (updM M a (.lst (l ++ [p])))
  | _, _ => False
theorem mAppend : MtP X "list.append" appendP := by
  refine ⟨_, mt_append, fun x xs H px ps M Q Qp rx rs m u k => ?_⟩
  cases rx with
  | ref a => cases rs with
    | nil => exact u.elim
    | cons r rr => cases rr with
      | cons _ _ => exact u.elim
      | nil =>
        obtain ⟨l, h, hl, q⟩ := u
        obtain ⟨vs, e, rv⟩ := m _ _ h
        obtain ⟨tk, mm⟩ := Tk_set (l := l) m e (rv.snoc r)
        exact ⟨_, _, _, rfl, rfl, e, by rw [← rv.length]; exact hl, k _ _ _ _ tk mm .non q⟩
  | _ => cases rs <;> exact u.elim
def popP : RMp := fun x ps M Q => match x, ps with
  | .ref a, [] => ∃ l y, M a = some (.lst l) ∧ l[l.length - 1]? = some y ∧ Q y (updM M a (.lst l.dropLast))
  | _, _ => False
theorem Reps.dropLast {H : Hp} {ps : List PV} {vs : List V} (r : Reps K H ps vs) : Reps K H ps.dropLast vs.dropLast := by
  rw [List.dropLast_eq_take, List.dropLast_eq_take, r.length]
  exact r.take _
theorem mPop : MtP X "list.pop" popP := by
  refine ⟨_, mt_pop, fun x xs H px ps M Q Qp rx rs m u k => ?_⟩
  cases rx with
  | ref a => cases rs with
    | cons _ _ => exact u.elim
    | nil =>
      obtain ⟨l, y, h, hl, q⟩ := u
      obtain ⟨vs, e, rv⟩ := m _ _ h
      obtain ⟨v, e2, r2⟩ := rv.get hl
      obtain ⟨tk, mm⟩ := Tk_set (l := l) m e rv.dropLast
      exact ⟨_, _, v, rfl, rfl, e, by rw [← rv.length]; exact e2, k _ _ _ _ tk mm (r2.mono tk) q⟩
  | _ => cases rs <;> exact u.elim
/-- the first place of a whole number in a list of whole numbers -/
def indexIP (K : Kf) : RMp := fun x ps M Q => match x, ps with
  | .ref a, [.int y] => ∃ (ns : List Int) (j : Nat), rdL K M a (ns.map PV.int) ∧ ns[j]? = some y ∧ (∀ i, i < j → ns[i]? ≠ some y) ∧ Q (.int (j : Int)) M
  | _, _ => False
theorem mIndexI : MtP X "list.index" (indexIP X.K) := by
  refine ⟨_, mt_index, fun x xs H px ps M Q Qp rx rs m u k => ?_⟩
  cases rx with
  | ref a => cases rs with
    | nil => exact u.elim
    | cons r rr => cases rr with
      | cons _ _ => cases r <;> exact u.elim
      | nil => cases r with
        | int y =>
          obtain ⟨ns, j, h, h1, h2, q⟩ := u
          obtain ⟨vs, e, rv⟩ := h.to m
          have e2 := rv.ints
          subst e2
          refine ⟨a, ns.map V.int, .int y, j, .int y, rfl, rfl, e, rfl, ?_, ?_, ?_, ?_, k _ _ _ _ (Tk.refl _ _) m (.int _) q⟩
          · rw [List.all_eq_true]
            intro z hz
            obtain ⟨n, _, rfl⟩ := List.mem_map.mp hz
            rfl
          · rw [List.getElem?_map, h1]; rfl
          · show (y == y) = true
            exact beq_self_eq_true y
          · intro i z hi hz
            rw [List.getElem?_map] at hz
            cases e3 : ns[i]? with
            | none => rw [e3] at hz; cases hz
            | some n =>
              rw [e3] at hz
              have e4 := Option.some.inj hz
              subst e4
              show (n == y) = false
              rw [beq_eq_false_iff_ne]
              intro e5
              exact h2 i hi (by rw [e3, e5])
        | _ => exact u.elim
  | _ => cases rs with
    | nil => exact u.elim
    | cons r rr => cases rr <;> cases r <;> exact u.elim
end
end PL

set_option Elab.async false
set_option linter.all false
set_option maxRecDepth 100000
set_option maxHeartbeats 2000000
/-! PL7: the end of a law. -/
namespace PL
open PySem L2 PySem.Spec PyProof.Rows
/-- the end: as law_call of the layer, but the def may also use that nothing sees a great division -/
theorem law_callS {P : Program} {w : World} {K : Kf} {mg mb : Str → Option Value} {k : Nat} {fa sc : Addr} {fd : FuncData} {x : Str} {sp : Sp} {t : Shared} {us : List Value} {zs : List Int}
    (kin : K.In t.heap) (glob : t.heap.Ns mainGlobals mg) (blt : t.heap.Ns builtinsNs mb) (boot : ∀ x : Str, x ≠ "__name__" → mb x = bootBuiltins x) (lim : t.heap.NoLimit) (see : t.heap.NoSeer) (quiet : t.gens = #[])
    (script : t.heap.get? sc = some { cls := .type "list", data := .seq us.toArray }) (whole : IntsAre us zs) (few : zs.length ≤ sizeLine) (room : Room k callerA)
    (F : ∀ base : Heap, K.In base → base.Ns mainGlobals mg → base.NoSeer → FnOk P w K mg base CX0 k fa fd [x] sp) (binds : ∀ (s : Shared) (u : Value), BindsTo s fd ⟨[u], []⟩ [(x, u)])
    (keeps : ∀ H : Hp, Only H → SqL K H sc (zs.map V.int) → sp [.ref sc] H (fun v _ => v = .bl true) fun _ _ _ => False) :
    codeAny (model P w) callerA (.call (.ref fa) ⟨[.ref sc], []⟩) (fun r s' => r = .ok (.ret (.bool true)) ∧ OldK t.heap s'.heap ∧ s'.os = t.os ∧ AllBare s'.gens) t := by
  have vals := vals_ints whole
  -- H tracks the script at most; then the base is the heap without it
  have main : ∀ H : Hp, Only H → SqL K H sc (zs.map V.int) → HOk P w H t.heap → (∀ b, H b ≠ none → b = sc ∧ K.lookup sc = none) →
      codeAny (model P w) callerA (.call (.ref fa) ⟨[.ref sc], []⟩) (fun r s' => r = .ok (.ret (.bool true)) ∧ OldK t.heap s'.heap ∧ s'.os = t.os ∧ AllBare s'.gens) t := by
    intro H only seq ok at_sc
    have free : ∀ {b : Addr} {o : Obj}, t.heap.get? b = some o → o ≠ { cls := .type "list", data := .seq us.toArray } → H b = none := fun {b o} e d => by
      cases q : H b with
      | none => rfl
      | some u =>
        obtain ⟨rfl, _⟩ := at_sc b (by rw [q]; exact Option.some_ne_none u)
        exact absurd (Option.some.inj (e.symm.trans script)) d
    have stay : ∀ {b : Addr} {o : Obj}, t.heap.get? b = some o → o ≠ { cls := .type "list", data := .seq us.toArray } → (hidT t.heap H).get? b = some o := fun e d => hidT_get e (free e d)
    have ns : ∀ {b : Addr} {m : Str → Option Value}, t.heap.Ns b m → (hidT t.heap H).Ns b m := fun {b m} n => by
      obtain ⟨o, es, ep, e, d, r⟩ := n
      refine ⟨o, es, ep, stay e (fun z => ?_), d, r⟩
      subst z
      exact Data.noConfusion d
    have kb : K.In (hidT t.heap H) := fun b o e => hidT_get (kin b o e) (by
      cases q : H b with
      | none => rfl
      | some u =>
        obtain ⟨rfl, no⟩ := at_sc b (by rw [q]; exact Option.some_ne_none u)
        rw [no] at e; cases e)
    have nsee : (hidT t.heap H).NoSeer := by
      obtain ⟨⟨m1, a1, b1⟩, ⟨m2, a2, b2⟩, ⟨m3, a3, b3⟩, ⟨m4, bm, ob, a4, b4, c4, d4, e4⟩⟩ := see
      refine ⟨⟨m1, ns a1, b1⟩, ⟨m2, ns a2, b2⟩, ⟨m3, ns a3, b3⟩, ⟨m4, bm, ob, ns a4, b4, stay c4 (fun z => ?_), d4, e4⟩⟩
      subst z
      injection d4 with d5
      revert d5; decide
    have nlim : (hidT t.heap H).NoLimit := by
      obtain ⟨m1, a1, b1⟩ := lim
      exact ⟨m1, ns a1, b1⟩
    have around : Env0 P w K mg (hidT t.heap H) callerA [] t H := ⟨rfl, ⟨kb, ns glob, ⟨mb, ns blt, boot⟩, nlim⟩, fun b o e => of_hidT e, Nat.le_of_eq (hidT_size _ _), trivial, (fun b hb => by cases hb), ok, .of_eq quiet⟩
    have ran := (F _ kb (ns glob) nsee).run callerA [] t H ⟨[.ref sc], []⟩ [.ref sc] [.ref sc] _ _ room around (binds t (.ref sc)) (.cons rfl .nil) (keeps H only seq)
    refine codeAny_mono ran fun r s' h => ?_
    match r, h with
    | .ok (.ret u), ⟨v, H', os, bare, un, ok', rel, hv⟩ =>
      have hv' : v = .bl true := hv
      subst hv'
      obtain rfl : u = Value.bool true := rel
      refine ⟨rfl, .of_keep fun b o e => ?_, os, bare⟩
      cases q : H b with
      | none => exact un.keep b o e q (List.not_mem_nil) (List.not_mem_nil)
      | some u =>
        rcases only b with none | ⟨ob, xs, here⟩
        · rw [none] at q; cases q
        · have before := (ok b _ here).1
          have behind := (ok' b _ (un.frzs b ob _ here)).1
          rw [← Option.some.inj (before.symm.trans e)]
          exact behind
  by_cases known : K.lookup sc = none
  · refine main (fun b => if b = sc then some (.frz { cls := .type "list", data := .seq us.toArray } (.lst (zs.map V.int))) else none) (fun b => ?_) (.inl (.inr ⟨_, if_pos rfl⟩)) (fun b u here => ?_) fun b here => ?_
    all_goals by_cases at_b : b = sc
    · exact .inr ⟨_, _, if_pos at_b⟩
    · exact .inl (if_neg at_b)
    · subst at_b
      obtain rfl := Option.some.inj ((if_pos rfl).symm.trans here)
      exact ⟨script, Nat.le_trans (Nat.le_of_eq (List.length_map _)) few, us, _, vals, script⟩
    · exfalso; have z := (if_neg at_b).symm.trans here; cases z
    · exact ⟨at_b, known⟩
    · exact absurd (if_neg at_b) here
  · obtain ⟨o, ko⟩ := Option.ne_none_iff_exists'.mp known
    have same := Option.some.inj ((kin sc o ko).symm.trans script)
    subst same
    exact main (fun _ => none) (fun _ => .inl rfl) (.inr ⟨_, us.toArray, _, ko, rfl, rfl, rfl, by rw [List.size_toArray, whole.length]; exact few, vals⟩) (fun b u here => by cases here) fun b here => absurd rfl here
/-- what the law's own def promises -/
def spLaw (K : Kf) : PSpec := fun vs M Q _ => ∃ (a : Addr) (ns : List Int), vs = [.ref a] ∧ rdL K M a (ns.map PV.int) ∧ ns.length ≤ 63 ∧ (∀ z ∈ ns, Builtin.Int.intBits z ≤ 1048576) ∧ Q (.bl true) M
theorem walkP {l : PySem.W.OpenLaw} {k : Nat} {q : Program} {loose : List Str} {XP : (Str → Option Value) → Heap → Prop} {YP : World → Heap → Prop} {d : DefRec} {K : Params → Kf} {x : Str}
    (hn : l.most = some 63) (hdf : d.params.defaults = []) (hr : Room k callerA) (ht : l.prog.given.tree = none) (hq : importsNone q = true)
    (hY : ∀ (wd : World) (hp : Heap), YP wd hp → (K wd.params).In hp)
    (F : ∀ (wd : World) (g : Str → Option Value) (fa : Addr) (hp : Heap), (K wd.params).In hp → hp.Ns mainGlobals g → g d.name = some (.ref fa) →
      ∃ fd : FuncData, (∀ (t : Shared) (z : Value), BindsTo t fd ⟨[z], []⟩ [(x, z)]) ∧ ∀ b0 : Heap, (K wd.params).In b0 → b0.Ns mainGlobals g → Sure l.prog b0 → FnOk l.prog wd (K wd.params) g b0 CX0 k fa fd [x] (concF (K wd.params) (spLaw (K wd.params)))) :
    PySem.W.WalkO q loose XP YP l.row.toRowW d [] (fun fn us => PySem.call fn us) := by
  refine Att.attach_callB hn hdf fun w before after mg mb fa o pm cd doc a vs ns G Y _ _ _ named here whole few bits quiet => ?_
  have kin := hY w _ Y
  obtain ⟨fd, bound, proved⟩ := F w mg fa _ kin G.T.g named
  refine law_callS kin G.T.g G.T.b G.T.builtins G.T.nolimit (G.T.seer hq) quiet here whole (Nat.le_trans few (by decide)) hr (fun base h1 h2 h3 => proved base h1 h2 ⟨h3, ht⟩) bound (fun H hO hS => ?_)
  rcases hS with hS | hS
  · refine ⟨[.ref a], fun b => if b = a then some (.ro (ns.map PV.int)) else none, fun v _ => v = .bl true, fun _ _ _ => False, .cons (.ref a) .nil, fun b o e => ?_, ⟨a, ns, rfl, .inr (.inl (if_pos rfl)), few, bits, rfl⟩, fun v H' p M' _ _ r e => ?_, fun _ _ _ _ _ _ z => z⟩
    · have e : (if b = a then some (MO.ro (ns.map PV.int)) else none) = some o := e
      by_cases hb : b = a
      · rw [if_pos hb] at e; cases e; subst hb
        exact ⟨_, hS, Reps.of_ints⟩
      · rw [if_neg hb] at e; cases e
    · subst e; cases r; rfl
  · refine ⟨[.ref a], fun b => none, fun v _ => v = .bl true, fun _ _ _ => False, .cons (.ref a) .nil, (fun b o e => by cases e), ⟨a, ns, rfl, .inr (.inr ⟨_, hS, fun H => Reps.of_ints⟩), few, bits, rfl⟩, fun v H' p M' _ _ r e => ?_, fun _ _ _ _ _ _ z => z⟩
    subst e; cases r; rfl
/-- a def stands where the top has written it -/
theorem here_of {K : Kf} {h : Heap} {mg : Str → Option Value} {x : Str} {st : Stmt} {ps : List Str} {f : Addr} {oc : Value} {od an : Option Addr} {osl : Array (Option Value)} {kV dc pm cd ct : Value} (X : K.In h) (G : h.Ns mainGlobals mg)
    (a : PySem.W.nsIn K mainGlobals x = some (some (.ref f))) (l : K.lookup f = some ⟨oc, od, .func (PySem.W.fnOf x x (defArgs st) (defBody st) (defScope st) .none kV dc pm an cd ct), osl⟩) (c : PySem.W.codeIn K cd x = true) (k : PySem.W.keepIn K (.ref f) = true)
    (b : ∀ (kV doc pm : Value) (an : Option Addr) (cdv ct : Value) (us : List Value), us.length = ps.length → bindArgs (PySem.W.fnOf x x (defArgs st) (defBody st) (defScope st) .none kV doc pm an cdv ct) ⟨us, []⟩ = pure (ps.zip us)) : Here K mg x st ps :=
  ⟨⟨f, _, fun_mk l c k, PySem.W.mg_of X G a, (fun_mk l c k).binds b⟩⟩
/-- the law's own def -/
theorem law_of {P : Program} {w : World} {K : Kf} {mg : Str → Option Value} {base : Heap} {k : Nat} {x : Str} {st : Stmt} {N ps : List Str} {psp : PSpec} {f : Addr} {fd : FuncData} (F : Fun K x x st f fd) (S : FnScope N ps (defScope st)) (len : ∀ vs M Q E, psp vs M Q E → vs.length = ps.length)
    (body : ∀ f cdv A outer s H E, Room k (defCx P w K mg base N x st f cdv A outer s H E).A → ∃ t, PSsp (defCx P w K mg base N x st f cdv A outer s H E) H (defBody st) t ∧ ∀ vs M Q Ep, psp vs M Q Ep → t (ends Q) (startP N vs) M) :
    FnOk P w K mg base CX0 (k + 1) f fd ps (concF K psp) := by
  refine F.ok S (fun vs H Q E h => ?_) (fun cdv A outer s H vs Q E hr h => ?_)
  · obtain ⟨qs, M, Qp, Ep, r, m, u, _⟩ := h
    rw [← r.length]
    exact len _ _ _ _ u
  · obtain ⟨qs, M, Qp, Ep, r, m, u, k1, k2⟩ := h
    obtain ⟨t, d, b⟩ := body f cdv A outer s H E hr
    refine ⟨_, d, startP N qs, M, ends Qp, Tk.refl _ _, startP_rel r N, m, b _ _ _ _ u, ⟨fun σ' H' σp' M' t1 s1 m1 q => ?_, fun v H' p M' t1 m1 r1 q => ?_, fun _ _ _ _ _ _ _ z => z.elim, fun _ _ _ _ _ _ _ z => z.elim⟩⟩
    · obtain ⟨M0, sb, q⟩ := q
      exact k1 _ _ _ _ t1 (m1.sub sb) .non q
    · obtain ⟨M0, sb, q⟩ := q
      exact k1 _ _ _ _ t1 (m1.sub sb) r1 q
end PL
namespace PL
open PySem L2
section
variable {X : Cx} {H0 : Hp} {K : Kf} {st : Stmt} {rest : List Stmt} {ts us : TSp}
/-- a statement, then the rest from a word between them -/
@[reducible] def tCut (t u : TSp) : TSp := fun D σ M => ∃ Mid : PSt → PHp → Prop, t (nxt D (Nx Mid)) σ M ∧ ∀ σ' M', Mid σ' M' → u D σ' M'
theorem psscut (h1 : PSp' X H0 st ts) (h2 : PSsp X H0 rest us) : PSsp X H0 (st :: rest) (tCut ts us) := pssW (pss_cons h1 h2) fun D σ H ⟨σp, M, Dp, t, s, m, ⟨Mid, u, q⟩, k⟩ =>
  ⟨σp, M, _, t, s, m, u, ⟨fun σ1 H1 σp1 M1 t1 s1 m1 ⟨σ0, M0, ss, sm, z⟩ => ⟨σ0, M0, Dp, t.trans t1, s1.sub ss, m1.sub sm, q _ _ z, k.mono t1⟩, k.rt, k.bk, k.ct⟩⟩
end
end PL

set_option Elab.async false
set_option linter.all false
set_option maxRecDepth 100000
set_option maxHeartbeats 2000000
/-! PL8: answers. -/
namespace PL
open PySem L2
section
variable {K : Kf} {M : PHp} {a : Addr} {l xs : List PV} {v : PV} {i j : Int} {n : Nat} {B : Prop}
theorem g_ixl {R : PV → Prop} (h : rdL K M a l) (e : atI l i = some v) (q : R v) : ∃ l, rdL K M a l ∧ ∃ v, atI l i = some v ∧ R v := ⟨_, h, _, e, q⟩
theorem g_ixt {R : PV → Prop} (e : atI l i = some v) (q : R v) : ∃ v, atI l i = some v ∧ R v := ⟨_, e, q⟩
theorem g_rd {R : List PV → Prop} (h : rdL K M a l) (q : R l) : ∃ l, rdL K M a l ∧ R l := ⟨_, h, q⟩
theorem g_set {R : List PV → Nat → Prop} (h : M a = some (.lst xs)) (e : ixN xs.length i = some n) (q : R xs n) : ∃ xs j, M a = some (.lst xs) ∧ ixN xs.length i = some j ∧ R xs j := ⟨_, _, h, e, q⟩
theorem g_app {R : List PV → Prop} (h : M a = some (.lst xs)) (e : xs.length < sizeLine) (q : R xs) : ∃ l, M a = some (.lst l) ∧ l.length < sizeLine ∧ R l := ⟨_, h, e, q⟩
theorem g_lst {R : List PV → Prop} (h : M a = some (.lst xs)) (q : R xs) : ∃ l, M a = some (.lst l) ∧ R l := ⟨_, h, q⟩
theorem g_sz (h : xs.length ≤ sizeLine) (q : B) : xs.length ≤ sizeLine ∧ B := ⟨h, q⟩
theorem g_mul (h : IntMulOk i j) (q : B) : IntMulOk i j ∧ B := ⟨h, q⟩
theorem g_ne (h : j ≠ 0) (q : B) : j ≠ 0 ∧ B := ⟨h, q⟩
theorem g_pow (h : 0 ≤ j ∧ j ≤ 1000000 ∧ i.natAbs < 2 ^ 64) (q : B) : (0 ≤ j ∧ j ≤ 1000000 ∧ i.natAbs < 2 ^ 64) ∧ B := ⟨h, q⟩
theorem g_kit {t s : String} (h : isiKit t s = true) (q : B) : isiKit t s = true ∧ B := ⟨h, q⟩
theorem g_rng1 (h : -(2 ^ 62) ≤ j ∧ j < 2 ^ 62) (q : B) : (-(2 ^ 62) ≤ j ∧ j < 2 ^ 62) ∧ B := ⟨h, q⟩
theorem g_rng2 (h : -(2 ^ 62) ≤ i ∧ i < 2 ^ 62 ∧ -(2 ^ 62) ≤ j ∧ j < 2 ^ 62) (q : B) : (-(2 ^ 62) ≤ i ∧ i < 2 ^ 62 ∧ -(2 ^ 62) ≤ j ∧ j < 2 ^ 62) ∧ B := ⟨h, q⟩
theorem g_tup {k : Nat} (h : xs.length = k) (q : B) : xs.length = k ∧ B := ⟨h, q⟩
theorem g_ty {T : String} {x : PV} (h : tyP K T x M) (q : B) : tyP K T x M ∧ B := ⟨h, q⟩
theorem small_ok {i j : Int} (h : i.natAbs < 2 ^ 64) : IntMulOk i j := by
  refine IntMulOk.of_left ?_
  unfold Builtin.Int.intBits
  split
  · omega
  · rename_i hz
    have h2 := (Nat.log2_lt (n := i.natAbs) (k := 64) (by simpa using hz)).mpr h
    omega
theorem small_ok' {i j : Int} (h : j.natAbs < 2 ^ 64) : IntMulOk i j := by
  refine IntMulOk.of_right ?_
  unfold Builtin.Int.intBits
  split
  · omega
  · rename_i hz
    have h2 := (Nat.log2_lt (n := j.natAbs) (k := 64) (by simpa using hz)).mpr h
    omega
end
/-! the same with the written part named -/
section
variable {X : Cx} {H0 : Hp} {pos : Pos} {K : Kf}
theorem opEqK (hu : X.A.units + 64 < cLine) (hK : X.K = K := by rfl) : OpP X (compareOp .Eq) (eqP K) := hK ▸ opEq hu
theorem opNeK (hu : X.A.units + 64 < cLine) (hK : X.K = K := by rfl) : OpP X (compareOp .NotEq) (neP K) := hK ▸ opNe hu
theorem cLenK (hK : X.K = K := by rfl) : CallP X (.builtin "len") (lenP K) := hK ▸ cLen
theorem cTupleK (hK : X.K = K := by rfl) : CallP X (.type "tuple") (tupleP K) := hK ▸ cTuple
theorem cListK (hK : X.K = K := by rfl) : CallP X (.type "list") (listP K) := hK ▸ cList
theorem cIsiK (hK : X.K = K := by rfl) : CallP X (.builtin "isinstance") (isiP K) := hK ▸ cIsi
theorem cSumK (hc : X.calm = true) (hK : X.K = K := by rfl) : CallP X (.builtin "sum") (sumP K) := hK ▸ cSum hc
theorem cMaxK (hc : X.calm = true) (hK : X.K = K := by rfl) : CallP X (.builtin "max") (maxP K) := hK ▸ cMax hc
theorem cMinK (hc : X.calm = true) (hK : X.K = K := by rfl) : CallP X (.builtin "min") (minP K) := hK ▸ cMin hc
theorem mIndexIK (hK : X.K = K := by rfl) : MtP X "list.index" (indexIP K) := hK ▸ mIndexI
theorem pixK {a b : Expr} {ta tb : TEp} (ha : PEp X H0 a ta) (hb : PEp X H0 b tb) (hs : PlainIx b := by exact fun _ _ => rfl) (hK : X.K = K := by rfl) : PEp X H0 (.Subscript a b pos) (tOp (ixP K) ta tb) := by
  subst hK; exact pix ha hb hs
theorem piseqK {tg e : Expr} {te : TEp} (h : PEp X H0 e te) (hK : X.K = K := by rfl) : PIp' X H0 tg e (iSeq K te) := by
  subst hK; exact piseq h
variable {o e : Expr} {es : List Expr} {to : TEp} {ta : TAp} {name : Str} {apos cpos : Pos} {T id : String} {u : RMp}
theorem pbm0K (pa : PlainAttrs T) (slot : Slot T name id) (hty : typeOf (.builtin id) = pure (.type "method_descriptor")) (hm : MtP X id u) (ho : PEp X H0 o to)
    (h1 : attributeBase o name X.env (eval o X.env) = eval o X.env := by rfl) (h3 : (apos.endLine == cpos.line) = true := by rfl) (hK : X.K = K := by rfl) : PEp X H0 (.Call (.Attribute o name apos) [] [] cpos) (tBM0 K T u to) := by
  subst hK; exact pbm0 pa slot hty hm ho h1 h3
theorem pbmK (pa : PlainAttrs T) (slot : Slot T name id) (hty : typeOf (.builtin id) = pure (.type "method_descriptor")) (hm : MtP X id u) (ho : PEp X H0 o to) (ha : PAp X H0 (e :: es) ta)
    (h1 : attributeBase o name X.env (eval o X.env) = eval o X.env := by rfl)
    (h2 : (((backTo cpos (starEach (e :: es) X.env)).all (fun x => !x.1) && (backToKw cpos (keywordEach [] X.env)).all (fun x => x.1.isSome)) && decide ((e :: es).length + ([] : List Keyword).length + (if ([] : List Keyword).isEmpty then 0 else 1) < 30)) = true := by rfl)
    (h3 : (apos.endLine == cpos.line) = true := by rfl) (h4 : starEach (e :: es) X.env = (false, eval e X.env) :: starEach es X.env := by rfl) (h5 : (backTo cpos (starEach es X.env)).any (·.1) = false := by rfl) (hK : X.K = K := by rfl) :
    PEp X H0 (.Call (.Attribute o name apos) (e :: es) [] cpos) (tBM K T u to ta) := by
  subst hK; exact pbm pa slot hty hm ho ha h1 h2 h3 h4 h5
end
end PL

set_option Elab.async false
set_option linter.all false
set_option maxRecDepth 100000
set_option maxHeartbeats 2000000
/-! PL9: membership, isinstance of a tuple of types, str, pop(i), sorted, ranges as lists, two fors, what is never reached. -/
namespace PLraw
open PySem PySem.Spec PySem.Calls PyProof.Rows
section
variable {prog : Program} {w : World} {A : Around} {E : Value → Shared → Prop} {s : Shared}
/-- the items of a tuple, gathered -/
theorem gather_tup {l : Addr} {vs : List Value} {Q : List Value → Shared → Prop} (tup : s.heap.IsTuple l vs.toArray) (few : vs.length ≤ sizeLine)
    (h : Q vs { s with heap := (s.heap.push (seqObj "list" #[] 0)).update s.heap.objs.size (Obj.mapSeq (· ++ vs.toArray)) }) : wpAny (model prog w) A (collect (.ref l)) Q E s := by
  obtain ⟨o, at_l, cls, n, dat⟩ := tup
  have quiet : ∀ args, (Code.builtin "list.__iadd__" args).quiet = true := fun args => Code.quiet_builtin args (by decide +kernel)
  unfold collect; refine wpAny_bind (wpAny_runValue (codeAny_builtin entry_proto_collect' ?_)); change wpAny _ _ (do again (.builtin "list.__iadd__" ⟨[← newList [], .ref l], []⟩)) _ _ s
  refine wpAny_bind (wpAny_newList (wpAny_pure ⟨quiet _, codeAny_builtin entry_list_iadd' ?_⟩))
  change wpAny _ _ (Builtin.List.listExtendWith (.ref s.heap.objs.size) (.ref l) (.ref s.heap.objs.size)) _ _ { s with heap := s.heap.push (seqObj "list" #[] 0) }; unfold Builtin.List.listExtendWith
  have here : (s.heap.push (seqObj "list" #[] 0)).get? l = some o := Heap.get?_push_of_some _ at_l
  have fresh : (s.heap.push (seqObj "list" #[] 0)).get? s.heap.objs.size = some (seqObj "list" #[] 0) := Heap.get?_push_size _ rfl
  refine wpAny_bind (wpAny_typeOf (T := "tuple") ⟨o, here, cls⟩ ?_)
  rw [if_pos (by rw [show (Value.type "tuple" == Value.type "tuple") = true by rfl]; simp)]
  refine wpAny_bind (listItems_at here dat (wpAny_bind (listItems_at (xs := #[]) (n := 0) fresh rfl ?_)))
  rw [if_neg (by simp)]
  refine wpAny_bind (listUpdate_at (xs := #[]) (n := 0) fresh rfl (wpAny_pure ?_) (Nat.zero_le _) (by show (#[] ++ vs.toArray).size ≤ sizeLine + 1; simp only [Array.size_append, List.size_toArray, List.length_nil]; omega))
  change wpAny (model prog w) A (load s.heap.objs.size >>= fun ob => match ob.data with | .seq xs _ => pure xs.toList | _ => unsupported "internal:collect") Q E { s with heap := (s.heap.push (seqObj "list" #[] 0)).update s.heap.objs.size (Obj.mapSeq (· ++ vs.toArray)) }
  have all : ((#[] : Array Value) ++ vs.toArray).toList = vs := by simp
  refine wpAny_bind (wpAny_load (get?_update_seq fresh _) ?_); change wpAny _ _ (pure ((#[] : Array Value) ++ vs.toArray).toList) Q E _
  rw [all]
  exact wpAny_pure h
/-- sorted(x) of a tuple, by its sort -/
theorem sorted_tup {l : Addr} {vs : List Value} {Q : Value → Shared → Prop} {R : Array Value → Prop} (tup : s.heap.IsTuple l vs.toArray) (few : vs.length ≤ sizeLine)
    (sorts : ∀ (A : Around) (t : Shared) (a : Addr) (P : Fin → Shared → Prop), t.heap.get? a = some (seqObj "list" vs.toArray 0) → (∀ out, R out → P (.done (.ret .none)) { t with heap := sortedHeap t.heap a vs out }) → ∀ E, wpAny (model prog w) A (Builtin.«list.sort» ⟨[.ref a], []⟩) P E t)
    (h : ∀ out, R out → Q (.ref (s.heap.objs.size + 1)) { s with heap := sortedAll s.heap vs out }) : wpAny (model prog w) A (call (.builtin "sorted") [.ref l]) Q E s := by
  refine (Calls.call_function_entry kind_sorted plain_sorted entry_sorted (args_sorted1 _) ?_)
  unfold Builtin.«sorted»
  refine wpAny_bind (m := checkCount "sorted" 1 1 _) (wpAny_pure (wpAny_bind (gather_tup tup few (wpAny_bind (wpAny_newList ?_)))))
  have count : ((s.heap.push (seqObj "list" #[] 0)).update s.heap.objs.size (Obj.mapSeq (· ++ vs.toArray))).objs.size = s.heap.objs.size + 1 := (Heap.size_update _ _ _).trans (size_push' _ _)
  have laid : (((s.heap.push (seqObj "list" #[] 0)).update s.heap.objs.size (Obj.mapSeq (· ++ vs.toArray))).push (seqObj "list" vs.toArray 0)).get? (s.heap.objs.size + 1) = some (seqObj "list" vs.toArray 0) := count ▸ Heap.get?_push_size _ rfl
  change wpAny _ _ _ _ _ { s with heap := ((s.heap.push (seqObj "list" #[] 0)).update s.heap.objs.size (Obj.mapSeq (· ++ vs.toArray))).push (seqObj "list" vs.toArray 0) }
  rw [count]
  exact wpAny_bind (wpAny_holding (wpAny_call_entry slot_list_sort ⟨_, laid, rfl⟩ entry_list_sort (sorts _ _ _ _ laid (fun out ro => ⟨_, rfl, wpAny_pure ⟨_, rfl, h out ro⟩⟩) _) (args_list_sort _)))
theorem sorted_tup_ints {l : Addr} {vs : List Value} {ns : List Int} {Q : Value → Shared → Prop} (tup : s.heap.IsTuple l vs.toArray) (whole : IntsAre vs ns) (few : vs.length ≤ sizeLine)
    (h : ∀ (out : Array Value) (ms : List Int), IntsAre out.toList ms → ms.Perm ns → ms.Pairwise (· ≤ ·) → Q (.ref (s.heap.objs.size + 1)) { s with heap := sortedAll s.heap vs out }) : wpAny (model prog w) A (call (.builtin "sorted") [.ref l]) Q E s :=
  sorted_tup (R := fun out => ∃ ms, IntsAre out.toList ms ∧ ms.Perm ns ∧ ms.Pairwise (· ≤ ·)) tup few (fun A t a P here k E => list_sort_treeAny here whole few fun out ms h1 h2 h3 => k out ⟨ms, h1, h2, h3⟩) fun out ⟨ms, h1, h2, h3⟩ => h out ms h1 h2 h3
end
end PLraw
namespace PL
open PySem L2
section
variable {X : Cx} {H0 : Hp} {pos : Pos} {K : Kf}
/-! ### never reached -/
@[reducible] def tDead : TSp := fun _ _ _ => False
theorem psdead {st : Stmt} : PSp' X H0 st tDead := ⟨fun _ _ _ _ _ _ ⟨_, _, _, _, _, _, h, _⟩ => h.elim⟩
theorem pssdead {sts : List Stmt} : PSsp X H0 sts tDead := ⟨fun _ _ _ _ _ _ ⟨_, _, _, _, _, _, h, _⟩ => h.elim⟩
theorem Callee.never {P : Program} {w : World} {mg : Str → Option Value} {base : Heap} {k : Nat} {x : Str} {st : Stmt} {N ps : List Str} (h : Here K mg x st ps) (S : FnScope N ps (defScope st)) : Callee P w K mg base (k + 1) x ps (fun _ _ _ _ => False) :=
  ok_of h S (fun _ _ _ _ z => z.elim) fun f cdv A outer s H E hr => ⟨_, pssdead, fun _ _ _ _ z => z.elim⟩
/-! ### x in xs -/
/-- x among the items, by == -/
def inL (x : PV) (l : List PV) : Bool := l.any fun y => flEq y x
theorem flat_rep {H : Hp} {p : PV} {v : V} (r : Rep K H p v) (f : flatP p = true) : flatV v = true := by
  cases r <;> first | rfl | cases f
theorem flat_reps {H : Hp} {ps : List PV} : ∀ {vs : List V}, Reps K H ps vs → ps.all flatP = true → vs.all flatV = true := by
  induction ps with
  | nil => intro vs r _; cases r; rfl
  | cons p ps ih =>
    intro vs r f
    cases r with
    | cons a b =>
      rw [List.all_cons, Bool.and_eq_true] at f ⊢
      exact ⟨flat_rep a f.1, ih b f.2⟩
theorem flat_eq {H : Hp} {p q : PV} {v u : V} (r : Rep K H p v) (r' : Rep K H q u) (f : flatP p = true) (f' : flatP q = true) : eqV v u = flEq p q := by
  cases r <;> cases r' <;> first | rfl | (cases f; done) | (cases f'; done) | skip
  all_goals first | (show (_ == _) = decide (_ = _); rw [Bool.eq_iff_iff]; simp; done) | skip
theorem in_rep {H : Hp} {x : PV} {v : V} (rx : Rep K H x v) (fx : flatP x = true) {ps : List PV} : ∀ {vs : List V}, Reps K H ps vs → ps.all flatP = true → inV v vs = inL x ps := by
  induction ps with
  | nil => intro vs r _; cases r; rfl
  | cons p ps ih =>
    intro vs r f
    cases r with
    | cons a b =>
      rw [List.all_cons, Bool.and_eq_true] at f
      show (eqV _ v || inV v _) = (flEq p x || inL x ps)
      rw [flat_eq a rx f.1 fx, ih b f.2]
theorem inL_strs {x : Str} : ∀ {ns : List Str}, inL (.str x) (ns.map PV.str) = decide (x ∈ ns)
  | [] => rfl
  | n :: ns => by
    show (decide (n = x) || inL (.str x) (ns.map PV.str)) = _
    rw [inL_strs, Bool.eq_iff_iff]
    simp [@eq_comm _ n x]
theorem inL_ints {x : Int} : ∀ {ns : List Int}, inL (.int x) (ns.map PV.int) = decide (x ∈ ns)
  | [] => rfl
  | n :: ns => by
    show (decide (n = x) || inL (.int x) (ns.map PV.int)) = _
    rw [inL_ints, Bool.eq_iff_iff]
    simp [@eq_comm _ n x]
theorem all_strs {ns : List Str} : (ns.map PV.str).all flatP = true := by simp [flatP]
theorem all_ints {ns : List Int} : (ns.map PV.int).all flatP = true := by simp [flatP]
def inP (K : Kf) (neg : Bool) : R2p := fun x y M Q => match y with
  | .tup l => flatP x = true ∧ l.all flatP = true ∧ ∃ b, inL x l = b ∧ Q (.bl (if neg then !b else b)) M
  | .ref a => ∃ l, rdL K M a l ∧ flatP x = true ∧ l.all flatP = true ∧ ∃ b, inL x l = b ∧ Q (.bl (if neg then !b else b)) M
  | _ => False
theorem in_sim {neg : Bool} : SimR K (rIn K neg) (inP K neg) := fun x y H px py M Q Qp rx ry m u k => by
  cases ry with
  | tup h r =>
    obtain ⟨f1, f2, b, e, q⟩ := u
    refine ⟨_, _, rfl, .inr h.t, flat_rep rx f1, flat_reps r f2, ?_⟩
    rw [in_rep rx f1 r f2, e]
    exact k _ _ _ _ (Tk.refl _ _) m (.bl _) q
  | ref a =>
    obtain ⟨l, h, f1, f2, b, e, q⟩ := u
    obtain ⟨vs, e1, r⟩ := h.to m
    refine ⟨_, _, rfl, .inl e1, flat_rep rx f1, flat_reps r f2, ?_⟩
    rw [in_rep rx f1 r f2, e]
    exact k _ _ _ _ (Tk.refl _ _) m (.bl _) q
  | _ => exact u.elim
theorem opIn (hK : X.K = K := by rfl) : OpP X (compareOp .In) (inP K false) := hK ▸ ⟨_, op_in_seq, in_sim⟩
theorem opNotIn (hK : X.K = K := by rfl) : OpP X (compareOp .NotIn) (inP K true) := hK ▸ ⟨_, op_notIn_seq, in_sim⟩
/-! ### isinstance of several -/
def isiTs (t : String) (ns : List String) : Bool := ns.any (isiT t)
theorem kit_any {K : Kf} {t : String} : ∀ {ns : List String}, ns.all (isiKit t) = true → PySem.W.kitAny K (.type t) (ns.map Value.type) = some (isiTs t ns)
  | [], _ => rfl
  | n :: ns, h => by
    rw [List.all_cons, Bool.and_eq_true] at h
    refine kitAny_cons (kit_ty (kit_isi h.1)) (fun e => ?_) fun e => ?_
    · rw [kit_any h.2]
      show some (isiTs t ns) = some (isiT t n || isiTs t ns)
      rw [e]; rfl
    · show (isiT t n || isiTs t ns) = true
      rw [e]; rfl
def isiTP (K : Kf) : RCp := fun xs M Q => match xs with
  | [x, .tup cs] => ∃ t ns, tyName K M x t ∧ cs = ns.map PV.ty ∧ ns.all (isiKit t) = true ∧ Q (.bl (isiTs t ns)) M
  | _ => False
theorem reps_tys {H : Hp} : ∀ {ns : List String} {vs : List V}, Reps K H (ns.map PV.ty) vs → Paired ClsV vs (ns.map Value.type)
  | [], _, .nil => .nil
  | _ :: _, _, .cons (.ty _) r => .cons (.ty _) (reps_tys r)
def rIsiTu (K : Kf) : List V → Hp → VK → Prop := fun xs H Q => ∃ (x : V) (tp : Addr) (cs : List V) (t : Value) (us : List Value) (b : Bool), xs = [x, .ref tp] ∧ SqT K H tp cs ∧ Paired ClsV cs us ∧ TyX K H x t ∧ PySem.W.kitAny K t us = some b ∧ Q (.bl b) H
theorem call_isiTu : CallR X (.builtin "isinstance") (rIsiTu X.K) := by
  rintro pins s σ H xs us Q I r ⟨x, tp, cs, t, ws, b, rfl, there, cls, ty, e, q⟩
  obtain ⟨ux, ut, rfl, rx, rt⟩ := vals2 r
  cases (show ut = Value.ref tp from rt)
  obtain ⟨P, Z, p, hx⟩ := kit_of I rx ty
  obtain ⟨its, rv, ⟨⟨oc, od, dt, sl⟩, at_tp, hc, n, hd⟩, _⟩ := I.tuple there
  obtain rfl := ClsV.all cls rv
  simp only at hc hd
  subst hc hd
  exact PySem.W.kia_tup Z I.kIn p at_tp e hx fun tk => ⟨.bl b, H, I.tok tk, rfl, q⟩
theorem cIsiT : CallP X (.builtin "isinstance") (isiTP X.K) := by
  refine ⟨_, call_isiTu, fun xs H ps M Q Qp rs m u k => ?_⟩
  cases rs with
  | nil => exact u.elim
  | cons r rr => cases rr with
    | nil => exact u.elim
    | cons r2 rr2 => cases rr2 with
      | cons _ _ => cases r2 <;> exact u.elim
      | nil => cases r2 with
        | tup h r3 =>
          obtain ⟨t, ns, h1, rfl, h2, q⟩ := u
          exact ⟨_, _, _, _, _, _, rfl, h.t, reps_tys r3, tyX_of m r h1, kit_any h2, k _ _ _ _ (Tk.refl _ _) m (.bl _) q⟩
        | _ => exact u.elim
theorem cIsiTK (hK : X.K = K := by rfl) : CallP X (.builtin "isinstance") (isiTP K) := hK ▸ cIsiT
/-! ### str(n) -/
def strIP : RCp := fun xs M Q => match xs with
  | [.int i] => i.natAbs.log2 < 1920 ∧ Q (.str (toString i)) M
  | _ => False
theorem cStr : CallP X (.type "str") strIP := by
  refine ⟨_, call_str_int, fun xs H ps M Q Qp rs m u k => ?_⟩
  cases rs with
  | nil => exact u.elim
  | cons r rr => cases rr with
    | cons _ _ => cases r <;> exact u.elim
    | nil => cases r with
      | int i => exact ⟨i, rfl, u.1, k _ _ _ _ (Tk.refl _ _) m (.str _) u.2⟩
      | _ => exact u.elim
/-! ### xs.pop(i) -/
def popAtP : RMp := fun x ps M Q => match x, ps with
  | .ref a, [.int i] => ∃ l y n, M a = some (.lst l) ∧ 0 ≤ i ∧ i < (l.length : Int) ∧ l.length ≤ sizeLine ∧ n = i.toNat ∧ l[n]? = some y ∧ Q y (updM M a (.lst (l.eraseIdx n)))
  | _, _ => False
theorem Reps.eraseIdx {H : Hp} : ∀ {ps : List PV} {vs : List V} (i : Nat), Reps K H ps vs → Reps K H (ps.eraseIdx i) (vs.eraseIdx i)
  | _, _, _, .nil => .nil
  | _, _, 0, .cons _ t => t
  | _, _, i + 1, .cons r t => .cons r (Reps.eraseIdx i t)
theorem mPopAt : MtP X "list.pop" popAtP := by
  refine ⟨_, mt_popAt, fun x xs H px ps M Q Qp rx rs m u k => ?_⟩
  cases rx with
  | ref a => cases rs with
    | nil => exact u.elim
    | cons r rr => cases rr with
      | cons _ _ => cases r <;> exact u.elim
      | nil => cases r with
        | int i =>
          obtain ⟨l, y, n, h, i0, i1, hz, rfl, hy, q⟩ := u
          obtain ⟨vs, e, rv⟩ := m _ _ h
          obtain ⟨v, e2, r2⟩ := rv.get hy
          obtain ⟨tk, mm⟩ := Tk_set (l := l) m e (rv.eraseIdx i.toNat)
          have hs : l.length < 2 ^ 62 := by
            have z : (sizeLine : Nat) < 2 ^ 62 := by rw [sizeLine_eq]; decide
            omega
          refine ⟨_, _, i, i.toNat, v, rfl, rfl, e, by omega, by omega, ?_, e2, k _ _ _ _ tk mm (r2.mono tk) q⟩
          rw [← rv.length]
          exact (ixN_seq (j := i.toNat) (by unfold ixN; rw [if_pos i0, if_pos i1])).1
        | _ => exact u.elim
  | _ => cases rs with
    | nil => exact u.elim
    | cons r rr => cases rr <;> exact u.elim
end
end PL

set_option Elab.async false
set_option linter.all false
set_option maxRecDepth 100000
set_option maxHeartbeats 2000000
/-! PL10: comprehensions with any targets, two fors; ranges as lists; sorted. -/
namespace PL
open PySem L2
section
variable {X : Cx} {H0 : Hp} {pos : Pos} {K : Kf}
/-! ### targets of a comprehension -/
abbrev Mt := PV → Option (List (Nat × PV))
abbrev Mts := List PV → Option (List (Nat × PV))
@[reducible] def setsP (σ : PSt) : List (Nat × PV) → PSt
  | [] => σ
  | a :: r => setsP (σ.set a.1 (some a.2)) r
def setsV (σ : L2.St) : List (Nat × V) → L2.St
  | [] => σ
  | a :: r => setsV (σ.set a.1 (some a.2)) r
inductive RepAs (K : Kf) (H : Hp) : List (Nat × PV) → List (Nat × V) → Prop
  | nil : RepAs K H [] []
  | cons {j p v as us} : Rep K H p v → RepAs K H as us → RepAs K H ((j, p) :: as) ((j, v) :: us)
theorem RepAs.append {H : Hp} {as : List (Nat × PV)} {us : List (Nat × V)} (h : RepAs K H as us) {bs : List (Nat × PV)} {ws : List (Nat × V)} (h2 : RepAs K H bs ws) : RepAs K H (as ++ bs) (us ++ ws) := by
  induction h with
  | nil => exact h2
  | cons a _ ih => exact .cons a ih
theorem RepAs.rel {H : Hp} {as : List (Nat × PV)} {us : List (Nat × V)} (h : RepAs K H as us) : ∀ {σp : PSt} {σ : L2.St}, RelS K H σp σ → RelS K H (setsP σp as) (setsV σ us) := by
  induction h with
  | nil => intro _ _ s; exact s
  | cons a _ ih => intro _ _ s; exact ih (s.set a _)
theorem setsV_append (σ : L2.St) (us ws : List (Nat × V)) : setsV σ (us ++ ws) = setsV (setsV σ us) ws := by
  induction us generalizing σ with
  | nil => rfl
  | cons a r ih => exact ih _
theorem RepAs.wipes {H : Hp} {as : List (Nat × PV)} {us : List (Nat × V)} (h : RepAs K H as us) {vs : List Nat} (ins : ∀ a ∈ as, a.1 ∈ vs) : ∀ σ : L2.St, L2.wipe (setsV σ us) vs = L2.wipe σ vs := by
  induction h with
  | nil => intro σ; rfl
  | @cons j p v as us a _ ih =>
    intro σ
    show L2.wipe (setsV (σ.set j (some v)) us) vs = _
    rw [ih fun b hb => ins b (List.mem_cons_of_mem _ hb)]
    exact wipe_set _ _ _ _ (ins (j, p) List.mem_cons_self)
structure TgOk (K : Kf) (g : TG) (mt : Mt) (vs : List Nat) : Prop where
  ok : ∀ p v H σ as Q, Rep K H p v → mt p = some as → (∀ us, RepAs K H as us → Q (setsV σ us) H) → g v σ H Q
  ins : ∀ p as, mt p = some as → ∀ a ∈ as, a.1 ∈ vs
structure TgsOk (K : Kf) (g : TGs) (mt : Mts) (vs : List Nat) : Prop where
  ok : ∀ p v H σ as Q, Reps K H p v → mt p = some as → (∀ us, RepAs K H as us → Q (setsV σ us) H) → g v σ H Q
  ins : ∀ p as, mt p = some as → ∀ a ∈ as, a.1 ∈ vs
@[reducible] def mtName (j : Nat) : Mt := fun p => some [(j, p)]
@[reducible] def mtNil : Mts := fun l => match l with | [] => some [] | _ => none
@[reducible] def mtCons (m : Mt) (ms : Mts) : Mts := fun l => match l with
  | [] => none
  | p :: r => match m p, ms r with | some a, some b => some (a ++ b) | _, _ => none
@[reducible] def mtTup (n : Nat) (ms : Mts) : Mt := fun p => match p with | .tup l => if l.length = n then ms l else none | _ => none
theorem tgName {j : Nat} {vs : List Nat} (h : j ∈ vs) : TgOk K (L2.gName j) (mtName j) vs where
  ok := fun p v H σ as Q r e k => by
    cases e
    exact k [(j, v)] (.cons r .nil)
  ins := fun p as e a ha => by
    cases e
    rw [List.mem_singleton] at ha
    subst ha; exact h
theorem tgsNil {vs : List Nat} : TgsOk K L2.gNil mtNil vs where
  ok := fun p v H σ as Q r e k => by
    cases r with
    | nil => cases e; exact ⟨rfl, k [] .nil⟩
    | cons _ _ => cases e
  ins := fun p as e a ha => by
    cases p with
    | nil => cases e; cases ha
    | cons _ _ => cases e
theorem tgsCons {g : TG} {gs : TGs} {m : Mt} {ms : Mts} {vs : List Nat} (h1 : TgOk K g m vs) (h2 : TgsOk K gs ms vs) : TgsOk K (L2.gCons g gs) (mtCons m ms) vs where
  ok := fun p v H σ as Q r e k => by
    cases r with
    | nil => cases e
    | @cons p v ps vs' r rr =>
      simp only [mtCons] at e
      cases ea : m p with
      | none => rw [ea] at e; cases e
      | some a =>
        cases eb : ms ps with
        | none => rw [ea, eb] at e; cases e
        | some b =>
          rw [ea, eb] at e
          cases e
          refine ⟨_, _, rfl, h1.ok p v H σ a _ r ea fun us hu => h2.ok ps vs' H _ b _ rr eb fun ws hw => ?_⟩
          rw [← setsV_append]
          exact k _ (hu.append hw)
  ins := fun p as e x hx => by
    cases p with
    | nil => cases e
    | cons p ps =>
      simp only [mtCons] at e
      cases ea : m p with
      | none => rw [ea] at e; cases e
      | some a =>
        cases eb : ms ps with
        | none => rw [ea, eb] at e; cases e
        | some b =>
          rw [ea, eb] at e
          cases e
          rcases List.mem_append.mp hx with q | q
          · exact h1.ins _ _ ea _ q
          · exact h2.ins _ _ eb _ q
theorem tgTup {n : Nat} {gs : TGs} {ms : Mts} {vs : List Nat} (h : TgsOk K gs ms vs) : TgOk K (L2.gTup K n gs) (mtTup n ms) vs where
  ok := fun p v H σ as Q r e k => by
    cases r with
    | tup hs rr =>
      simp only [mtTup] at e
      split at e
      · next hl => exact ⟨_, _, rfl, hs.t, by rw [← rr.length]; exact hl, h.ok _ _ H σ as Q rr e k⟩
      · cases e
    | _ => cases e
  ins := fun p as e x hx => by
    cases p with
    | tup l =>
      simp only [mtTup] at e
      split at e
      · exact h.ins _ _ e _ hx
      · cases e
    | _ => cases e
/-- one for, any target -/
@[reducible] def LcIn (mt : Mt) (tt : TTp) (te : TEp) (vs : List Nat) (σ : PSt) (Q : PVK) (items : List PV) (keep : PHp → Prop) (M1 : PHp) : Prop := ∀ Dl, M1 Dl = none → ∃ I : Nat → List PV → PHp → Prop, (∃ M5, Sub M5 (updM M1 Dl (.lst [])) ∧ I 0 [] M5) ∧
  (∀ i acc M, I i acc M → keep M) ∧ (∀ i x acc M, items[i]? = some x → I i acc M → ∃ as, mt x = some as ∧ LcTurn vs σ tt te Dl acc (I (i + 1)) (setsP (wipeP σ vs) as) M) ∧ ∀ acc M, I items.length acc M → Q (.ref Dl) M
@[reducible] def tLcG (wi : TIp) (mt : Mt) (tt : TTp) (te : TEp) (vs : List Nat) : TEp := fun σ M Q => wi σ M (LcIn mt tt te vs σ Q)
theorem lcR_conc {g : TG} {mt : Mt} {vs : List Nat} {wi : TIp} {tt : TTp} {te : TEp} (hg : TgOk K g mt vs) {R : PSt → PVK → List PV → (PHp → Prop) → PHp → Prop} (hR : ∀ σ Q items keep M1, R σ Q items keep M1 → LcIn mt tt te vs σ Q items keep M1)
    {σ : L2.St} {H : Hp} {Q : VK} (h : concE K H0 (fun σ M Q => wi σ M (R σ Q)) σ H Q) :
    L2.tLc (concI K H0 wi) g (concT K H0 tt) (concE K H0 te) vs σ H Q := by
  obtain ⟨σp, M, Qp, t, s, m, u, k⟩ := h
  refine ⟨σp, M, _, t, s, m, u, fun J H1 items keep M1 t1 m1 it u1 Dl hD => ?_⟩
  obtain ⟨I, ⟨M50, sb0, h0⟩, hk, hs, hd⟩ := hR _ _ _ _ _ u1 Dl (m1.fresh hD)
  have tn : Tk K H1 (upd H1 Dl (.lst [])) := .new hD
  have mn : RelM K (upd H1 Dl (.lst [])) (updM M1 Dl (.lst [])) := m1.put (m := .lst []) tn ⟨[], upd_same, .nil⟩
  refine ⟨fun i n H' => n = items.length - i ∧ i ≤ items.length ∧ ∃ acc Mq, Tk K H1 H' ∧ RelM K H' Mq ∧ I i acc Mq, ⟨_, rfl, Nat.zero_le _, [], M50, tn, mn.sub sb0, h0⟩, ?_⟩
  rintro i n H' ⟨rfl, hi, acc, Mq, tq, mq, hI⟩
  by_cases hlt : i < items.length
  · refine .inr ⟨it.go i H' Mq tq mq (hk _ _ _ hI) hlt, fun H2 => i + 1 ≤ items.length ∧ ∃ acc Mq, Tk K H1 H2 ∧ RelM K H2 Mq ∧ I (i + 1) acc Mq, fun H2 h => ⟨items.length - (i + 1), by omega, rfl, h.1, h.2⟩, fun x H2 y => ?_⟩
    obtain ⟨p, e1, r1, t2, mm⟩ := it.yld i H' Mq x H2 tq mq (hk _ _ _ hI) hlt y
    obtain ⟨as, ea, turn⟩ := hs i p acc Mq e1 hI
    refine hg.ok p x H2 _ as _ r1 ea fun us hu => ?_
    refine ⟨(hu.wipes (hg.ins _ _ ea) _).trans (wipe_wipe _ _), setsP (wipeP σp vs) as, Mq, _, t.trans (t1.trans (tq.trans t2)), hu.rel ((s.mono (t1.trans (tq.trans t2))).wipe _), mm _ mq, turn, fun b H3 M3 t3 m3 u3 => br_imp u3 (fun q => ?_) fun q => ?_⟩
    · refine ⟨_, M3, _, t.trans (t1.trans (tq.trans (t2.trans t3))), (hu.rel ((s.mono (t1.trans (tq.trans t2))).wipe _)).mono t3, m3, q, fun v H4 p4 M4 t4 m4 r4 q4 => ?_⟩
      obtain ⟨q1, q2, M5, sb, q5⟩ := q4
      obtain ⟨vs4, e4, r5⟩ := m4 _ _ q1
      obtain ⟨tk, m6⟩ := Tk_set (l := acc) m4 e4 (r5.snoc r4)
      exact ⟨vs4, e4, by rw [← r5.length]; exact q2, hlt, _, M5, tq.trans (t2.trans (t3.trans (t4.trans tk))), m6.sub sb, q5⟩
    · obtain ⟨M5, sb, q5⟩ := q
      exact ⟨hlt, _, M5, tq.trans (t2.trans t3), m3.sub sb, q5⟩
  · have e : i = items.length := by omega
    subst e
    exact .inl ⟨it.stop H' Mq tq mq (hk _ _ _ hI), k _ _ _ _ (t1.trans tq) mq (.ref Dl) (hd _ _ hI)⟩
theorem lcG_conc {g : TG} {mt : Mt} {vs : List Nat} {wi : TIp} {tt : TTp} {te : TEp} (hg : TgOk K g mt vs) {σ : L2.St} {H : Hp} {Q : VK} (h : concE K H0 (tLcG wi mt tt te vs) σ H Q) :
    L2.tLc (concI K H0 wi) g (concT K H0 tt) (concE K H0 te) vs σ H Q := lcR_conc hg (R := LcIn mt tt te vs) (fun _ _ _ _ _ h => h) h
/-- two fors -/
@[reducible] def Lc2In (vs1 : List Nat) (wi1 : TIp) (mt1 : Mt) (tt1 : TTp) (te : TEp) (Dl : Addr) (σ2 : PSt) (acc : List PV) (I : List PV → PHp → Prop) (M : PHp) : Prop := wi1 σ2 M fun items1 keep1 M4 => ∃ I1 : Nat → List PV → PHp → Prop, (∃ M5, Sub M5 M4 ∧ I1 0 acc M5) ∧
  (∀ i acc M, I1 i acc M → keep1 M) ∧ (∀ i x acc1 M, items1[i]? = some x → I1 i acc1 M → ∃ as, mt1 x = some as ∧ LcTurn vs1 σ2 tt1 te Dl acc1 (I1 (i + 1)) (setsP (wipeP σ2 vs1) as) M) ∧ ∀ acc1 M, I1 items1.length acc1 M → ∃ M7, Sub M7 M ∧ I acc1 M7
@[reducible] def tLc2 (wi : TIp) (mt : Mt) (tt : TTp) (wi1 : TIp) (mt1 : Mt) (tt1 : TTp) (te : TEp) (vs vs1 : List Nat) : TEp := fun σ M Q => wi σ M fun items keep M1 => ∀ Dl, M1 Dl = none → ∃ I : Nat → List PV → PHp → Prop, (∃ M5, Sub M5 (updM M1 Dl (.lst [])) ∧ I 0 [] M5) ∧
  (∀ i acc M, I i acc M → keep M) ∧ (∀ i x acc M, items[i]? = some x → I i acc M → ∃ as, mt x = some as ∧ tt (setsP (wipeP σ vs) as) M fun b M3 => br b (Lc2In vs1 wi1 mt1 tt1 te Dl (setsP (wipeP σ vs) as) acc (I (i + 1)) M3) (∃ M5, Sub M5 M3 ∧ I (i + 1) acc M5)) ∧
  ∀ acc M, I items.length acc M → Q (.ref Dl) M
theorem lc2_conc {g g1 : TG} {mt mt1 : Mt} {vs vs1 : List Nat} {wi wi1 : TIp} {tt tt1 : TTp} {te : TEp} (hg : TgOk K g mt vs) (hg1 : TgOk K g1 mt1 vs1) {σ : L2.St} {H : Hp} {Q : VK} (h : concE K H0 (tLc2 wi mt tt wi1 mt1 tt1 te vs vs1) σ H Q) :
    L2.tLc2 (concI K H0 wi) g (concT K H0 tt) (concI K H0 wi1) g1 (concT K H0 tt1) (concE K H0 te) vs vs1 σ H Q := by
  obtain ⟨σp, M, Qp, t, s, m, u, k⟩ := h
  refine ⟨σp, M, _, t, s, m, u, fun J H1 items keep M1 t1 m1 it u1 Dl hD => ?_⟩
  obtain ⟨I, ⟨M50, sb0, h0⟩, hk, hs, hd⟩ := u1 Dl (m1.fresh hD)
  have tn : Tk K H1 (upd H1 Dl (.lst [])) := .new hD
  have mn : RelM K (upd H1 Dl (.lst [])) (updM M1 Dl (.lst [])) := m1.put (m := .lst []) tn ⟨[], upd_same, .nil⟩
  refine ⟨fun i n H' => n = items.length - i ∧ i ≤ items.length ∧ ∃ acc Mq, Tk K H1 H' ∧ RelM K H' Mq ∧ I i acc Mq, ⟨_, rfl, Nat.zero_le _, [], M50, tn, mn.sub sb0, h0⟩, ?_⟩
  rintro i n H' ⟨rfl, hi, acc, Mq, tq, mq, hI⟩
  by_cases hlt : i < items.length
  · refine .inr ⟨it.go i H' Mq tq mq (hk _ _ _ hI) hlt, fun H2 => i + 1 ≤ items.length ∧ ∃ acc Mq, Tk K H1 H2 ∧ RelM K H2 Mq ∧ I (i + 1) acc Mq, fun H2 h => ⟨items.length - (i + 1), by omega, rfl, h.1, h.2⟩, fun x H2 y => ?_⟩
    obtain ⟨p, e1, r1, t2, mm⟩ := it.yld i H' Mq x H2 tq mq (hk _ _ _ hI) hlt y
    obtain ⟨as, ea, turn⟩ := hs i p acc Mq e1 hI
    refine hg.ok p x H2 _ as _ r1 ea fun us hu => ?_
    have s2 := hu.rel ((s.mono (t1.trans (tq.trans t2))).wipe vs)
    refine ⟨(hu.wipes (hg.ins _ _ ea) _).trans (wipe_wipe _ _), setsP (wipeP σp vs) as, Mq, _, t.trans (t1.trans (tq.trans t2)), s2, mm _ mq, turn, fun b H3 M3 t3 m3 u3 => br_imp u3 (fun q => ?_) fun q => ?_⟩
    · have T3 := t1.trans (tq.trans (t2.trans t3))
      refine ⟨_, M3, _, t.trans T3, s2.mono t3, m3, q, fun J1 H4 items1 keep1 M4 t4 m4 it1 u4 => ?_⟩
      obtain ⟨I1, ⟨M51, sb1, g0⟩, gk, gs, gd⟩ := u4
      refine ⟨fun j n H' => n = items1.length - j ∧ j ≤ items1.length ∧ ∃ acc Mq, Tk K H4 H' ∧ RelM K H' Mq ∧ I1 j acc Mq, ⟨_, rfl, Nat.zero_le _, acc, M51, Tk.refl _ _, m4.sub sb1, g0⟩, ?_⟩
      rintro j n' H5 ⟨rfl, hj, acc1, Mr, tr, mr, hI1⟩
      by_cases hlt1 : j < items1.length
      · refine .inr ⟨it1.go j H5 Mr tr mr (gk _ _ _ hI1) hlt1, fun H2 => j + 1 ≤ items1.length ∧ ∃ acc Mq, Tk K H4 H2 ∧ RelM K H2 Mq ∧ I1 (j + 1) acc Mq, fun H2 h => ⟨items1.length - (j + 1), by omega, rfl, h.1, h.2⟩, fun x1 H6 y1 => ?_⟩
        obtain ⟨p1, e2, r2, t6, mm6⟩ := it1.yld j H5 Mr x1 H6 tr mr (gk _ _ _ hI1) hlt1 y1
        obtain ⟨as1, ea1, turn1⟩ := gs j p1 acc1 Mr e2 hI1
        refine hg1.ok p1 x1 H6 _ as1 _ r2 ea1 fun us1 hu1 => ?_
        have s6 := hu1.rel ((s2.mono (t3.trans (t4.trans (tr.trans t6)))).wipe vs1)
        refine ⟨(hu1.wipes (hg1.ins _ _ ea1) _).trans (wipe_wipe _ _), _, Mr, _, t.trans (T3.trans (t4.trans (tr.trans t6))), s6, mm6 _ mr, turn1, fun b H7 M7 t7 m7 u7 => br_imp u7 (fun q7 => ?_) fun q7 => ?_⟩
        · refine ⟨_, M7, _, t.trans (T3.trans (t4.trans (tr.trans (t6.trans t7)))), s6.mono t7, m7, q7, fun v H8 p8 M8 t8 m8 r8 q8 => ?_⟩
          obtain ⟨q1, q2, M5, sb, q5⟩ := q8
          obtain ⟨vs4, e4, r5⟩ := m8 _ _ q1
          obtain ⟨tk, m6⟩ := Tk_set (l := acc1) m8 e4 (r5.snoc r8)
          exact ⟨vs4, e4, by rw [← r5.length]; exact q2, hlt1, _, M5, tr.trans (t6.trans (t7.trans (t8.trans tk))), m6.sub sb, q5⟩
        · obtain ⟨M5, sb, q5⟩ := q7
          exact ⟨hlt1, _, M5, tr.trans (t6.trans t7), m7.sub sb, q5⟩
      · have e : j = items1.length := by omega
        subst e
        obtain ⟨M7, sb, q5⟩ := gd _ _ hI1
        exact .inl ⟨it1.stop H5 Mr tr mr (gk _ _ _ hI1), hlt, _, M7, tq.trans (t2.trans (t3.trans (t4.trans tr))), mr.sub sb, q5⟩
    · obtain ⟨M5, sb, q5⟩ := q
      exact ⟨hlt, _, M5, tq.trans (t2.trans t3), m3.sub sb, q5⟩
  · have e : i = items.length := by omega
    subst e
    exact .inl ⟨it.stop H' Mq tq mq (hk _ _ _ hI), k _ _ _ _ (t1.trans tq) mq (.ref Dl) (hd _ _ hI)⟩
section
variable {elt iter tg iter1 tg1 : Expr} {ifs ifs1 : List Expr} {scope : Scope} {own : List (Str × Nat)} {wi wi1 : TIp} {tt tt1 : TTp} {te : TEp} {g g1 : TG} {mt mt1 : Mt}
theorem plcG (hc : X.calm = true) (hN : X.N.Nodup) (hi : PIp' X H0 tg iter wi) (ok : BlkOk X.N X.env.scope scope own) (hm : TgOk X.K g mt (own.map (·.2)))
    (hg : ∀ (s : Shared) (H : Hp) (C : Addr) (cl : List (Str × Addr)) (fp : List Addr), PG (X.blk s H scope (compEnvC scope cl C X.env) fp) tg g)
    (ht : ∀ (s : Shared) (H : Hp) (C : Addr) (cl : List (Str × Addr)) (fp : List Addr), PTsp (X.blk s H scope (compEnvC scope cl C X.env) fp) H0 ifs tt)
    (he : ∀ (s : Shared) (H : Hp) (C : Addr) (cl : List (Str × Addr)) (fp : List Addr), PEp (X.blk s H scope (compEnvC scope cl C X.env) fp) H0 elt te) (hs : ∀ x, foldedSetIterable iter X.env x = pure x := by intro _; rfl) :
    PEp X H0 (.ListComp elt [⟨tg, iter, ifs, 0⟩] scope pos) (tLcG wi mt tt te (own.map (·.2))) :=
  peW (pe_lc (tt := concT X.K H0 tt) (te := concE X.K H0 te) hc hN hi ok hg ht he hs) fun σ H Q h => lcG_conc hm h
theorem pssetlcG (i : Nat) {y : Str} {py spos : Pos} (hc : X.calm = true) (hN : X.N.Nodup) (hyl : X.env.scope.names.lookup y = some .local)
    (hsw : swapsWith (.ListComp elt [⟨tg, iter, ifs, 0⟩] scope pos) (some (.Name y py)) spos.line X.env = pure true) (hi : PIp' X H0 tg iter wi) (ok : BlkOk X.N X.env.scope scope own) (hm : TgOk X.K g mt (own.map (·.2)))
    (hg : ∀ (s : Shared) (H : Hp) (C : Addr) (cl : List (Str × Addr)) (fp : List Addr), PG (X.blk s H scope (compEnvC scope cl C X.env) fp) tg g)
    (ht : ∀ (s : Shared) (H : Hp) (C : Addr) (cl : List (Str × Addr)) (fp : List Addr), PTsp (X.blk s H scope (compEnvC scope cl C X.env) fp) H0 ifs tt)
    (he : ∀ (s : Shared) (H : Hp) (C : Addr) (cl : List (Str × Addr)) (fp : List Addr), PEp (X.blk s H scope (compEnvC scope cl C X.env) fp) H0 elt te) (hy : X.N[i]? = some y := by rfl) (hs : ∀ x, foldedSetIterable iter X.env x = pure x := by intro _; rfl) :
    PSp' X H0 (.Assign [.Name y py] (.ListComp elt [⟨tg, iter, ifs, 0⟩] scope pos) spos) (tAsg (tLcG wi mt tt te (own.map (·.2))) (gName i)) :=
  psW (ps_setLc (tt := concT X.K H0 tt) (te := concE X.K H0 te) hc hN hy hyl hsw hi ok hg ht he hs) fun D σ H ⟨σp, M, Dp, t, s, m, u, k⟩ =>
    lcG_conc hm ⟨σp, M, _, t, s, m, u, fun v H1 p M1 t1 m1 r u1 => k.nx _ _ _ _ t1 ((s.mono t1).set r i) m1 u1⟩
theorem plc2 (vs1 : List Nat) (hc : X.calm = true) (hN : X.N.Nodup) (hi : PIp' X H0 tg iter wi) (ok : BlkOk X.N X.env.scope scope own) (hm : TgOk X.K g mt (own.map (·.2))) (hv : ∀ i ∈ vs1, i ∈ own.map (·.2)) (hm1 : TgOk X.K g1 mt1 vs1)
    (hg : ∀ (s : Shared) (H : Hp) (C : Addr) (cl : List (Str × Addr)) (fp : List Addr), PG (X.blk s H scope (compEnvC scope cl C X.env) fp) tg g)
    (ht : ∀ (s : Shared) (H : Hp) (C : Addr) (cl : List (Str × Addr)) (fp : List Addr), PTsp (X.blk s H scope (compEnvC scope cl C X.env) fp) H0 ifs tt)
    (hi1 : ∀ (s : Shared) (H : Hp) (C : Addr) (cl : List (Str × Addr)) (fp : List Addr), PIp' (X.blk s H scope (compEnvC scope cl C X.env) fp) H0 tg1 iter1 wi1)
    (hgB : ∀ (s : Shared) (H : Hp) (C : Addr) (cl : List (Str × Addr)) (fp : List Addr), PG (X.blk s H scope (compEnvC scope cl C X.env) fp) tg1 g1)
    (ht1 : ∀ (s : Shared) (H : Hp) (C : Addr) (cl : List (Str × Addr)) (fp : List Addr), PTsp (X.blk s H scope (compEnvC scope cl C X.env) fp) H0 ifs1 tt1)
    (he : ∀ (s : Shared) (H : Hp) (C : Addr) (cl : List (Str × Addr)) (fp : List Addr), PEp (X.blk s H scope (compEnvC scope cl C X.env) fp) H0 elt te) (hs : ∀ x, foldedSetIterable iter X.env x = pure x := by intro _; rfl) (hs1 : ∀ env x, foldedSetIterable iter1 env x = pure x := by intro _ _; rfl) :
    PEp X H0 (.ListComp elt [⟨tg, iter, ifs, 0⟩, ⟨tg1, iter1, ifs1, 0⟩] scope pos) (tLc2 wi mt tt wi1 mt1 tt1 te (own.map (·.2)) vs1) :=
  peW (pe_lc2 (tt := concT X.K H0 tt) (tt1 := concT X.K H0 tt1) (wi1 := concI X.K H0 wi1) (te := concE X.K H0 te) hc hN hi ok hv hg ht hi1 hgB ht1 he hs hs1) fun σ H Q h => lc2_conc hm hm1 h
theorem pssetlc2 (i : Nat) (vs1 : List Nat) {y : Str} {py spos : Pos} (hc : X.calm = true) (hN : X.N.Nodup) (hyl : X.env.scope.names.lookup y = some .local)
    (hsw : swapsWith (.ListComp elt [⟨tg, iter, ifs, 0⟩, ⟨tg1, iter1, ifs1, 0⟩] scope pos) (some (.Name y py)) spos.line X.env = pure true) (hi : PIp' X H0 tg iter wi) (ok : BlkOk X.N X.env.scope scope own) (hm : TgOk X.K g mt (own.map (·.2))) (hv : ∀ i ∈ vs1, i ∈ own.map (·.2)) (hm1 : TgOk X.K g1 mt1 vs1)
    (hg : ∀ (s : Shared) (H : Hp) (C : Addr) (cl : List (Str × Addr)) (fp : List Addr), PG (X.blk s H scope (compEnvC scope cl C X.env) fp) tg g)
    (ht : ∀ (s : Shared) (H : Hp) (C : Addr) (cl : List (Str × Addr)) (fp : List Addr), PTsp (X.blk s H scope (compEnvC scope cl C X.env) fp) H0 ifs tt)
    (hi1 : ∀ (s : Shared) (H : Hp) (C : Addr) (cl : List (Str × Addr)) (fp : List Addr), PIp' (X.blk s H scope (compEnvC scope cl C X.env) fp) H0 tg1 iter1 wi1)
    (hgB : ∀ (s : Shared) (H : Hp) (C : Addr) (cl : List (Str × Addr)) (fp : List Addr), PG (X.blk s H scope (compEnvC scope cl C X.env) fp) tg1 g1)
    (ht1 : ∀ (s : Shared) (H : Hp) (C : Addr) (cl : List (Str × Addr)) (fp : List Addr), PTsp (X.blk s H scope (compEnvC scope cl C X.env) fp) H0 ifs1 tt1)
    (he : ∀ (s : Shared) (H : Hp) (C : Addr) (cl : List (Str × Addr)) (fp : List Addr), PEp (X.blk s H scope (compEnvC scope cl C X.env) fp) H0 elt te) (hy : X.N[i]? = some y := by rfl) (hs : ∀ x, foldedSetIterable iter X.env x = pure x := by intro _; rfl) (hs1 : ∀ env x, foldedSetIterable iter1 env x = pure x := by intro _ _; rfl) :
    PSp' X H0 (.Assign [.Name y py] (.ListComp elt [⟨tg, iter, ifs, 0⟩, ⟨tg1, iter1, ifs1, 0⟩] scope pos) spos) (tAsg (tLc2 wi mt tt wi1 mt1 tt1 te (own.map (·.2)) vs1) (gName i)) :=
  psW (ps_setLc2 (tt := concT X.K H0 tt) (tt1 := concT X.K H0 tt1) (wi1 := concI X.K H0 wi1) (te := concE X.K H0 te) hc hN hy hyl hsw hi ok hv hg ht hi1 hgB ht1 he hs hs1) fun D σ H ⟨σp, M, Dp, t, s, m, u, k⟩ =>
    lc2_conc hm hm1 ⟨σp, M, _, t, s, m, u, fun v H1 p M1 t1 m1 r u1 => k.nx _ _ _ _ t1 ((s.mono t1).set r i) m1 u1⟩
end
/-! ### list(range(..)), tuple(range(..)) -/
abbrev TRp := PSt → PHp → (Int → Int → PHp → Prop) → Prop
def concR (K : Kf) (H0 : Hp) (u : TRp) : L2.St → Hp → (Int → Int → Hp → Prop) → Prop := fun σ H Q => ∃ σp M Qp, Tk K H0 H ∧ RelS K H σp σ ∧ RelM K H M ∧ u σp M Qp ∧ ∀ a b H' M', Tk K H H' → RelM K H' M' → Qp a b M' → Q a b H'
abbrev PRp (X : Cx) (H0 : Hp) (e : Expr) (u : TRp) : Prop := PRg X e (concR X.K H0 u)
theorem prW {e : Expr} {t t' : L2.St → Hp → (Int → Int → Hp → Prop) → Prop} (h : PRg X e t) (w : ∀ σ H Q, t' σ H Q → t σ H Q) : PRg X e t' := fun pins s σ H Q I q => h pins s σ H Q I (w _ _ _ q)
@[reducible] def rg1 (ta : TEp) : TRp := fun σ M Q => ta σ M fun x M1 => match x with | .int n => Q 0 n M1 | _ => False
@[reducible] def rg2 (ta tb : TEp) : TRp := fun σ M Q => ta σ M fun x M1 => tb σ M1 fun y M2 => match x, y with | .int i, .int j => Q i j M2 | _, _ => False
variable {a b : Expr} {ta tb : TEp} {tr : TRp}
theorem prg1 {p : Pos} (hg : Gl X "range") (hm : X.mg "range" = none) (ha : PEp X H0 a ta) (na : starEach [a] X.env = (false, eval a X.env) :: starEach [] X.env := by rfl) : PRp X H0 (.Call (.Name "range" p) [a] [] pos) (rg1 ta) :=
  prW (prg_1 hg hm ha na) fun σ H Q ⟨σp, M, Qp, t, s, m, u, k⟩ => ⟨σp, M, _, t, s, m, u, fun x H1 px M1 t1 m1 rx u1 => by
    cases rx with
    | int n => exact ⟨n, rfl, k _ _ _ _ t1 m1 u1⟩
    | _ => exact u1.elim⟩
theorem prg2 {p : Pos} (hg : Gl X "range") (hm : X.mg "range" = none) (ha : PEp X H0 a ta) (hb : PEp X H0 b tb) (na : starEach [a, b] X.env = (false, eval a X.env) :: starEach [b] X.env := by rfl) (nb : starEach [b] X.env = (false, eval b X.env) :: starEach [] X.env := by rfl) (np : (backTo pos (starEach [b] X.env)).any (·.1) = false := by rfl) : PRp X H0 (.Call (.Name "range" p) [a, b] [] pos) (rg2 ta tb) :=
  prW (prg_2 hg hm ha hb na nb np) fun σ H Q ⟨σp, M, Qp, t, s, m, u, k⟩ => ⟨σp, M, _, t, s, m, u, fun x H1 px M1 t1 m1 rx u1 => ⟨σp, M1, _, t.trans t1, s.mono t1, m1, u1, fun y H2 py M2 t2 m2 ry u2 => by
    cases rx with
    | int i => cases ry with
      | int j => exact ⟨i, j, rfl, rfl, k _ _ _ _ (t1.trans t2) m2 u2⟩
      | _ => exact u2.elim
    | _ => exact u2.elim⟩⟩
theorem rgV_rep {H : Hp} (a b : Int) : Reps K H (rng a (b - a).toNat) (rgV a b) := by
  unfold rng rgV
  generalize (b - a).toNat = n
  have : ∀ l : List Nat, Reps K H (l.map fun (i : Nat) => PV.int (a + (i : Int))) (l.map fun i => V.int (a + (i : Nat))) := fun l => by
    induction l with
    | nil => exact .nil
    | cons i l ih => exact .cons (.int _) ih
  exact this _
@[reducible] def tLstRg (tr : TRp) : TEp := fun σ M Q => tr σ M fun a b M1 => RgOk a b ∧ ∀ q, M1 q = none → Q (.ref q) (updM M1 q (.lst (rng a (b - a).toNat)))
@[reducible] def tTupRg (tr : TRp) : TEp := fun σ M Q => tr σ M fun a b M1 => RgOk a b ∧ Q (.tup (rng a (b - a).toNat)) M1
theorem plistRg {e : Expr} {p : Pos} (hc : X.calm = true) (hg : Gl X "list") (hm : X.mg "list" = none) (he : PRp X H0 e tr) (na : starEach [e] X.env = (false, eval e X.env) :: starEach [] X.env := by rfl) : PEp X H0 (.Call (.Name "list" p) [e] [] pos) (tLstRg tr) :=
  peW (pe_listRg hc hg hm he na) fun σ H Q ⟨σp, M, Qp, t, s, m, u, k⟩ => ⟨σp, M, _, t, s, m, u, fun a b H1 M1 t1 m1 u1 => ⟨u1.1, fun q hq => new_lst m1 hq (rgV_rep a b) u1.2 fun v H2 p M2 t2 => k v H2 p M2 (t1.trans t2)⟩⟩
theorem ptupRg {e : Expr} {p : Pos} (hc : X.calm = true) (hg : Gl X "tuple") (hm : X.mg "tuple" = none) (he : PRp X H0 e tr) (na : starEach [e] X.env = (false, eval e X.env) :: starEach [] X.env := by rfl) : PEp X H0 (.Call (.Name "tuple" p) [e] [] pos) (tTupRg tr) :=
  peW (pe_tupRgX hc hg hm he na) fun σ H Q ⟨σp, M, Qp, t, s, m, u, k⟩ => ⟨σp, M, _, t, s, m, u, fun a b H1 M1 t1 m1 u1 => ⟨u1.1, new_tup m1 (rgV_rep a b) u1.2 fun v H2 p M2 t2 => k v H2 p M2 (t1.trans t2)⟩⟩
/-! ### tests by truth -/
def truP (K : Kf) (x : PV) (M : PHp) (Q : Bool → Prop) : Prop := match x with
  | .non => Q false
  | .bl b => Q b
  | .int i => Q (i != 0)
  | .str z => z.length ≤ sizeLine ∧ Q ((z.length : Int) != 0)
  | .tup l => Q (!l.isEmpty)
  | .ref a => ∃ l, rdL K M a l ∧ Q (!l.isEmpty)
  | _ => False
@[reducible] def tTru (K : Kf) (te : TEp) : TTp := fun σ M Q => te σ M fun x M1 => truP K x M1 fun b => Q b M1
theorem Reps.isEmpty {H : Hp} {l : List PV} {vs : List V} (r : Reps K H l vs) : vs.isEmpty = l.isEmpty := by
  cases r <;> rfl
theorem pttru (ha : PEp X H0 a ta) (he : ∀ whole, isTrue a X.env whole = (do let v ← whole; standAt a.pos; holding [v] (truthy v)) := by intro _; rfl) : PTp X H0 a (tTru X.K ta) :=
  ptW (pt_truth ha he) fun σ H Q ⟨σp, M, Qp, t, s, m, u, k⟩ => ⟨σp, M, _, t, s, m, u, fun x H1 px M1 t1 m1 rx u1 => by
    cases rx with
    | non => exact ⟨_, rfl, k _ _ _ t1 m1 u1⟩
    | bl b => exact ⟨_, rfl, k _ _ _ t1 m1 u1⟩
    | int i => exact ⟨_, rfl, k _ _ _ t1 m1 u1⟩
    | str z => exact ⟨_, ⟨u1.1, rfl⟩, k _ _ _ t1 m1 u1.2⟩
    | tup h r => exact ⟨_, .inr (.inl ⟨_, h.t, rfl⟩), by rw [r.isEmpty]; exact k _ _ _ t1 m1 u1⟩
    | ref a =>
      obtain ⟨l, h, q⟩ := u1
      obtain ⟨vs, e, r⟩ := h.to m1
      exact ⟨_, .inl ⟨_, e, rfl⟩, by rw [r.isEmpty]; exact k _ _ _ t1 m1 q⟩
    | _ => exact u1.elim⟩
/-! ### a < b < c -/
theorem pchain {op op' : CmpOp} {r r' : R2p} {c : Expr} {tc : TEp} (ho : OpP X (compareOp op) r) (ho' : OpP X (compareOp op') r') (ha : PEp X H0 a ta) (hb : PEp X H0 b tb) (hc : PEp X H0 c tc)
    (hm : lastMarks [op, op'] [b, c] = false := by with_unfolding_all rfl) : PEp X H0 (.Compare a [op, op'] [b, c] pos) (PL.tChain r r' ta tb tc) := by
  obtain ⟨r0, h1, h2⟩ := ho
  obtain ⟨r1, h3, h4⟩ := ho'
  refine peW (pe_chain h1 h3 ha hb hc hm) fun σ H Q ⟨σp, M, Qp, t, s, m, u, k⟩ => ⟨σp, M, _, t, s, m, u, fun x H1 px M1 t1 m1 rx u1 => ⟨σp, M1, _, t.trans t1, s.mono t1, m1, u1, fun y H2 py M2 t2 m2 ry u2 => ?_⟩⟩
  refine h2 x y H2 px py M2 _ _ (rx.mono t2) ry m2 u2 fun z H3 pz M3 t3 m3 rz u3 => ?_
  cases rz with
  | bl k0 =>
    refine ⟨k0, rfl, br_imp u3 (fun q => ?_) fun q => k _ _ _ _ (t1.trans (t2.trans t3)) m3 (.bl _) q⟩
    exact ⟨σp, M3, _, t.trans (t1.trans (t2.trans t3)), s.mono (t1.trans (t2.trans t3)), m3, q, fun w H4 pw M4 t4 m4 rw u4 => h4 y w H4 py pw M4 _ _ (ry.mono (t3.trans t4)) rw m4 u4 fun v H5 p M5 t5 => k v H5 p M5 (t1.trans (t2.trans (t3.trans (t4.trans t5))))⟩
  | _ => exact u3.elim
theorem ptchain {op op' : CmpOp} {r r' : R2p} {c : Expr} {tc : TEp} (ho : OpP X (compareOp op) r) (ho' : OpP X (compareOp op') r') (ha : PEp X H0 a ta) (hb : PEp X H0 b tb) (hc : PEp X H0 c tc)
    (hm : lastMarks [op, op'] [b, c] = false := by with_unfolding_all rfl) : PTp X H0 (.Compare a [op, op'] [b, c] pos) (tB (PL.tChain r r' ta tb tc)) := by
  obtain ⟨r0, h1, h2⟩ := ho
  obtain ⟨r1, h3, h4⟩ := ho'
  refine ptW (pt_chain h1 h3 ha hb hc hm) fun σ H Q h => ?_
  obtain ⟨σp, M, Qp, t, s, m, u, k⟩ := tB_conc h
  refine ⟨σp, M, _, t, s, m, u, fun x H1 px M1 t1 m1 rx u1 => ⟨σp, M1, _, t.trans t1, s.mono t1, m1, u1, fun y H2 py M2 t2 m2 ry u2 => ?_⟩⟩
  refine h2 x y H2 px py M2 _ _ (rx.mono t2) ry m2 u2 fun z H3 pz M3 t3 m3 rz u3 => ?_
  cases rz with
  | bl k0 =>
    refine ⟨k0, rfl, br_imp u3 (fun q => ?_) fun q => k _ _ _ _ (t1.trans (t2.trans t3)) m3 (.bl _) q⟩
    exact ⟨σp, M3, _, t.trans (t1.trans (t2.trans t3)), s.mono (t1.trans (t2.trans t3)), m3, q, fun w H4 pw M4 t4 m4 rw u4 => h4 y w H4 py pw M4 _ _ (ry.mono (t3.trans t4)) rw m4 u4 fun v H5 p M5 t5 => k v H5 p M5 (t1.trans (t2.trans (t3.trans (t4.trans t5))))⟩
  | _ => exact u3.elim
/-! ### sorted -/
def rSortTu (K : Kf) : List V → Hp → VK → Prop := fun vs H Q => ∃ (a : Addr) (ns : List Int), vs = [V.ref a] ∧ (SqT K H a (ns.map V.int) ∨ SqL K H a (ns.map V.int)) ∧ ∀ (ms : List Int) (p : Addr), ms.Perm ns → ms.Pairwise (· ≤ ·) → H p = none → Q (.ref p) (upd H p (.lst (ms.map V.int)))
theorem cr_sortTu : CallR X (.builtin "sorted") (rSortTu X.K) := by
  rintro pins s σ H vs us Q I r ⟨a, ns, rfl, here, q⟩
  have fin : ∀ (its : List Value) (out : Array Value) (ms : List Int), ns.length ≤ sizeLine → PyProof.Rows.IntsAre out.toList ms → ms.Perm ns → ms.Pairwise (· ≤ ·) → EP X pins σ Q (.ref (s.heap.objs.size + 1)) { s with heap := PyProof.Rows.sortedAll s.heap its out } := fun its out ms few h1 h2 h3 => by
    obtain ⟨ep, at_new⟩ := PyProof.Rows.sortedAll_at s.heap its out
    refine ⟨.ref _, upd H (s.heap.objs.size + 1) (.lst (ms.map V.int)), I.laid (t' := s.toks) (fun _ _ => PyProof.Rows.sortedAll_old) (Nat.le_succ _) ⟨?_, out.toList, ep, vals_of_ints h1, at_new⟩, rfl, q ms _ h2 h3 (I.hok.fresh (Nat.le_succ _))⟩
    rw [List.length_map, h2.length_eq]; exact few
  rw [Vals.ref1 r]
  rcases here with here | here
  · obtain ⟨its, rv, tup, few⟩ := I.tuple here
    rw [List.length_map] at few
    exact PLraw.sorted_tup_ints tup rv.ints (by rw [← rv.length, List.length_map]; exact few) fun out ms h1 h2 h3 => fin its out ms few h1 h2 h3
  · obtain ⟨its, rv, pl, few⟩ := I.list here
    rw [List.length_map] at few
    exact PyProof.Rows.sorted_intsAny pl.isList rv.ints (by rw [← rv.length, List.length_map]; exact few) fun out ms h1 h2 h3 => fin its out ms few h1 h2 h3
/-- whole numbers -/
def sortIP (K : Kf) : RCp := fun xs M Q => ∃ ns : List Int, (match xs with | [.tup l] => l = ns.map PV.int | [.ref a] => rdL K M a (ns.map PV.int) | _ => False) ∧ ∀ (ms : List Int) (p : Addr), ms.Perm ns → ms.Pairwise (· ≤ ·) → M p = none → Q (.ref p) (updM M p (.lst (ms.map PV.int)))
theorem cSortI : CallP X (.builtin "sorted") (sortIP X.K) := by
  refine ⟨_, cr_sortTu, fun xs H ps M Q Qp rs m u k => ?_⟩
  obtain ⟨ns, u, q⟩ := u
  cases rs with
  | nil => exact u.elim
  | cons r rr => cases rr with
    | cons _ _ => cases r <;> exact u.elim
    | nil => cases r with
      | tup h r =>
        subst u
        have e := r.ints
        subst e
        exact ⟨_, ns, rfl, .inl h.t, fun ms p h1 h2 hp => new_lst m hp Reps.of_ints (fun p hp => q ms p h1 h2 hp) k⟩
      | ref a =>
        obtain ⟨vs, e, r⟩ := u.to m
        have e2 := r.ints
        subst e2
        exact ⟨_, ns, rfl, .inr e, fun ms p h1 h2 hp => new_lst m hp Reps.of_ints (fun p hp => q ms p h1 h2 hp) k⟩
      | _ => exact u.elim
theorem cSortIK (hK : X.K = K := by rfl) : CallP X (.builtin "sorted") (sortIP K) := hK ▸ cSortI
theorem g_ins {x : Str} {ns : List Str} {R : Bool → Prop} (q : R (decide (x ∈ ns))) : flatP (.str x) = true ∧ (ns.map PV.str).all flatP = true ∧ ∃ b, inL (.str x) (ns.map PV.str) = b ∧ R b := ⟨rfl, all_strs, _, inL_strs, q⟩
theorem g_ini {x : Int} {ns : List Int} {R : Bool → Prop} (q : R (decide (x ∈ ns))) : flatP (.int x) = true ∧ (ns.map PV.int).all flatP = true ∧ ∃ b, inL (.int x) (ns.map PV.int) = b ∧ R b := ⟨rfl, all_ints, _, inL_ints, q⟩
theorem g_isiL {M : PHp} {a : Addr} {l : List PV} {n : String} {R : String → Prop} (h : M a = some (.lst l)) (hk : isiKit "list" n = true) (q : R "list") : ∃ t, tyName K M (.ref a) t ∧ isiKit t n = true ∧ R t := ⟨"list", .inl ⟨_, h, rfl⟩, hk, q⟩
theorem g_isiD {M : PHp} {a : Addr} {l : List (Key × PV)} {n : String} {R : String → Prop} (h : M a = some (.dK l)) (hk : isiKit "dict" n = true) (q : R "dict") : ∃ t, tyName K M (.ref a) t ∧ isiKit t n = true ∧ R t := ⟨"dict", .inr ⟨_, h, rfl⟩, hk, q⟩
end
end PL

set_option Elab.async false
set_option linter.all false
set_option maxRecDepth 100000
set_option maxHeartbeats 2000000
/-! PL11: comprehensions whose turns leave the heap alone; a tuple's index; slices. -/
namespace PL
open PySem L2
/-- f 0, .., f (n - 1) -/
def mk {α : Type} (n : Nat) (f : Nat → α) : List α := (List.range n).map f
section
variable {α β : Type} {n : Nat} {f g : Nat → α}
theorem mk_len : (mk n f).length = n := by unfold mk; simp
theorem mk_at {i : Nat} (h : i < n) : (mk n f)[i]? = some (f i) := by unfold mk; rw [List.getElem?_map, List.getElem?_range h]; rfl
theorem mk_get {i : Nat} {x : α} (h : (mk n f)[i]? = some x) : i < n ∧ x = f i := by
  have hi : i < n := by
    have := (List.getElem?_eq_some_iff.mp h).1
    rw [mk_len] at this; exact this
  rw [mk_at hi] at h
  exact ⟨hi, (Option.some.inj h).symm⟩
theorem mk_congr (h : ∀ i, i < n → f i = g i) : mk n f = mk n g := by
  unfold mk
  exact List.map_congr_left fun i hi => h i (List.mem_range.mp hi)
theorem mk_map (k : α → β) : (mk n f).map k = mk n (fun i => k (f i)) := by unfold mk; rw [List.map_map]; rfl
theorem mk_succ : mk (n + 1) f = mk n f ++ [f n] := by unfold mk; rw [List.range_succ, List.map_append]; rfl
theorem mk_zero : mk 0 f = [] := rfl
theorem mk_mem {x : α} : x ∈ mk n f ↔ ∃ i, i < n ∧ f i = x := by
  unfold mk
  rw [List.mem_map]
  exact ⟨fun ⟨i, h, e⟩ => ⟨i, List.mem_range.mp h, e⟩, fun ⟨i, h, e⟩ => ⟨i, List.mem_range.mpr h, e⟩⟩
theorem mk_of (l : List α) (d : α) : l = mk l.length fun i => l.getD i d := by
  apply List.ext_getElem?
  intro i
  by_cases h : i < l.length
  · rw [mk_at h, List.getElem?_eq_getElem h, List.getD_eq_getElem?_getD, List.getElem?_eq_getElem h]; rfl
  · rw [List.getElem?_eq_none (by omega), List.getElem?_eq_none (by rw [mk_len]; omega)]
theorem mk_get_iff {l : List α} : l = mk n f ↔ l.length = n ∧ ∀ i x, l[i]? = some x → x = f i := by
  constructor
  · intro e
    subst e
    exact ⟨mk_len, fun i x h => (mk_get h).2⟩
  · rintro ⟨h1, h2⟩
    apply List.ext_getElem?
    intro i
    by_cases h : i < l.length
    · rw [mk_at (h1 ▸ h), List.getElem?_eq_getElem h, h2 i _ (List.getElem?_eq_getElem h)]
    · rw [List.getElem?_eq_none (by omega), List.getElem?_eq_none (by rw [mk_len]; omega)]
theorem mk_inj (h : mk n f = mk n g) : ∀ i, i < n → f i = g i := fun i hi => by
  have := congrArg (·[i]?) h
  simp only [mk_at hi] at this
  exact Option.some.inj this
theorem mk_set {i : Nat} {x : α} : (mk n f).set i x = mk n (fun j => if j = i then x else f j) := by
  apply List.ext_getElem?
  intro j
  rw [List.getElem?_set]
  by_cases hj : j < n
  · rw [mk_at hj, mk_at hj, mk_len]
    by_cases e : i = j
    · subst e; rw [if_pos rfl, if_pos hj, if_pos rfl]
    · rw [if_neg e, if_neg (Ne.symm e)]
  · have h1 : (mk n f)[j]? = none := List.getElem?_eq_none (by rw [mk_len]; omega)
    have h2 : (mk n (fun j => if j = i then x else f j))[j]? = none := List.getElem?_eq_none (by rw [mk_len]; omega)
    rw [h1, h2, mk_len]
    split
    · rw [if_neg (by omega)]
    · rfl
end
theorem rng_mk (n : Nat) : rng 0 n = mk n fun i => PV.int (i : Int) := by
  unfold rng mk
  refine List.map_congr_left fun i _ => ?_
  show PV.int (0 + (i : Int)) = PV.int (i : Int)
  rw [Int.zero_add]
section
variable {X : Cx} {H0 : Hp} {pos : Pos} {K : Kf}
/-- a comprehension whose turns leave the heap (but for what they add): f i by the turn -/
@[reducible] def LcP (mt : Mt) (te : TEp) (vs : List Nat) (σ : PSt) (Q : PVK) (items : List PV) (keep : PHp → Prop) (M1 : PHp) : Prop := ∃ f : Nat → PV, items.length ≤ 16777216 ∧ (∀ M2, Sub M1 M2 → keep M2) ∧
  (∀ i x M2 (Q2 : PVK), items[i]? = some x → Sub M1 M2 → (∀ M4, Sub M2 M4 → Q2 (f i) M4) → ∃ as, mt x = some as ∧ te (setsP (wipeP σ vs) as) M2 Q2) ∧ ∀ Dl l, M1 Dl = none → l = mk items.length f → Q (.ref Dl) (updM M1 Dl (.lst l))
theorem LcP.to {mt : Mt} {te : TEp} {vs : List Nat} {σ : PSt} {Q : PVK} {items : List PV} {keep : PHp → Prop} {M1 : PHp} (h : LcP mt te vs σ Q items keep M1) : LcIn mt tYes te vs σ Q items keep M1 := by
  obtain ⟨f, few, hk, ht, hd⟩ := h
  intro Dl hD
  refine ⟨fun i acc M => M = updM M1 Dl (.lst acc) ∧ acc = mk i f, ⟨_, .refl _, rfl, rfl⟩, ?_, ?_, ?_⟩
  · rintro i acc M ⟨rfl, _⟩
    exact hk _ (.new hD)
  · rintro i x acc M hx ⟨rfl, rfl⟩
    have hi := (List.getElem?_eq_some_iff.mp hx).1
    have go := ht i x (updM M1 Dl (.lst (mk i f))) (fun y M4 => M4 Dl = some (.lst (mk i f)) ∧ (mk i f).length < sizeLine ∧ ∃ M5, Sub M5 (updM M4 Dl (.lst (mk i f ++ [y]))) ∧ M5 = updM M1 Dl (.lst (mk i f ++ [y])) ∧ mk i f ++ [y] = mk (i + 1) f) hx (.new hD) fun M4 sb => by
      refine ⟨sb _ _ updM_same, by rw [mk_len, sizeLine_eq]; omega, updM M1 Dl (.lst (mk i f ++ [f i])), ?_, rfl, mk_succ.symm⟩
      have := (sb.upd (p := Dl) (o := .lst (mk i f ++ [f i])))
      rw [updM_updM] at this
      exact this
    obtain ⟨as, e, q⟩ := go
    exact ⟨as, e, br_tt q⟩
  · rintro acc M ⟨rfl, rfl⟩
    exact hd _ _ hD rfl
/-- the same with a test that leaves the heap: b i by the turn -/
@[reducible] def LcF (mt : Mt) (tt : TTp) (te : TEp) (vs : List Nat) (σ : PSt) (Q : PVK) (items : List PV) (keep : PHp → Prop) (M1 : PHp) : Prop := ∃ (b : Nat → Bool) (f : Nat → PV), items.length ≤ 16777216 ∧ (∀ M2, Sub M1 M2 → keep M2) ∧
  (∀ i x M2 (Q3 : Bool → PHp → Prop), items[i]? = some x → Sub M1 M2 → (∀ M4, Sub M2 M4 → Q3 (b i) M4) → ∃ as, mt x = some as ∧ tt (setsP (wipeP σ vs) as) M2 Q3) ∧
  (∀ i x M2 (Q2 : PVK), items[i]? = some x → b i = true → Sub M1 M2 → (∀ M4, Sub M2 M4 → Q2 (f i) M4) → ∃ as, mt x = some as ∧ te (setsP (wipeP σ vs) as) M2 Q2) ∧ ∀ Dl l, M1 Dl = none → l = ((List.range items.length).filter b).map f → Q (.ref Dl) (updM M1 Dl (.lst l))
theorem flt_len {b : Nat → Bool} {f : Nat → PV} (i : Nat) : (((List.range i).filter b).map f).length ≤ i := by
  rw [List.length_map]
  have := List.length_filter_le b (List.range i)
  rw [List.length_range] at this; exact this
theorem flt_succ {b : Nat → Bool} {f : Nat → PV} (i : Nat) : ((List.range (i + 1)).filter b).map f = ((List.range i).filter b).map f ++ (if b i = true then [f i] else []) := by
  rw [List.range_succ, List.filter_append, List.map_append]
  congr 1
  by_cases h : b i = true
  · rw [if_pos h, List.filter_cons_of_pos h]; rfl
  · rw [if_neg h, List.filter_cons_of_neg h]; rfl
theorem LcF.to {mt : Mt} {tt : TTp} {te : TEp} {vs : List Nat} {σ : PSt} {Q : PVK} {items : List PV} {keep : PHp → Prop} {M1 : PHp} (h : LcF mt tt te vs σ Q items keep M1) : LcIn mt tt te vs σ Q items keep M1 := by
  obtain ⟨b, f, few, hk, hb, ht, hd⟩ := h
  intro Dl hD
  refine ⟨fun i acc M => M = updM M1 Dl (.lst acc) ∧ acc = ((List.range i).filter b).map f, ⟨_, .refl _, rfl, rfl⟩, ?_, ?_, ?_⟩
  · rintro i acc M ⟨rfl, _⟩
    exact hk _ (.new hD)
  · rintro i x acc M hx ⟨rfl, ha⟩
    have hi := (List.getElem?_eq_some_iff.mp hx).1
    have hz := flt_len (b := b) (f := f) i
    have hs := flt_succ (b := b) (f := f) i
    rw [← ha] at hz hs
    have hP : ∀ M4, Sub (updM M1 Dl (.lst acc)) M4 → br (b i) (∃ as, mt x = some as ∧ te (setsP (wipeP σ vs) as) M4 fun y M4 => M4 Dl = some (.lst acc) ∧ acc.length < sizeLine ∧ ∃ M5, Sub M5 (updM M4 Dl (.lst (acc ++ [y]))) ∧ M5 = updM M1 Dl (.lst (acc ++ [y])) ∧ acc ++ [y] = ((List.range (i + 1)).filter b).map f)
        (∃ M5, Sub M5 M4 ∧ M5 = updM M1 Dl (.lst acc) ∧ acc = ((List.range (i + 1)).filter b).map f) := fun M4 sb => by
      cases hbi : b i with
      | true =>
        refine br_tt (ht i x M4 _ hx hbi (Sub.trans (.new hD) sb) fun M6 sb2 => ?_)
        refine ⟨sb2 _ _ (sb _ _ updM_same), by rw [sizeLine_eq]; omega, updM M1 Dl (.lst (acc ++ [f i])), ?_, rfl, by rw [hs, if_pos hbi]⟩
        have := ((sb.trans sb2).upd (p := Dl) (o := .lst (acc ++ [f i])))
        rw [updM_updM] at this
        exact this
      | false => exact br_ff ⟨_, sb, rfl, by rw [hs, if_neg (by rw [hbi]; exact Bool.false_ne_true), List.append_nil]⟩
    obtain ⟨as, e, q⟩ := hb i x _ (fun c M4 => br c (te (setsP (wipeP σ vs) ((mt x).getD [])) M4 fun y M4 => M4 Dl = some (.lst acc) ∧ acc.length < sizeLine ∧ ∃ M5, Sub M5 (updM M4 Dl (.lst (acc ++ [y]))) ∧ M5 = updM M1 Dl (.lst (acc ++ [y])) ∧ acc ++ [y] = ((List.range (i + 1)).filter b).map f)
        (∃ M5, Sub M5 M4 ∧ M5 = updM M1 Dl (.lst acc) ∧ acc = ((List.range (i + 1)).filter b).map f)) hx (.new hD) fun M4 sb => by
      have z := hP M4 sb
      cases hbi : b i with
      | true =>
        rw [hbi] at z
        obtain ⟨as, e, q⟩ := br_ite z
        rw [e]; exact br_tt q
      | false =>
        rw [hbi] at z
        exact br_ff (br_ite z)
    rw [e] at q
    exact ⟨as, e, q⟩
  · rintro acc M ⟨rfl, rfl⟩
    exact hd _ _ hD rfl
section
variable {elt iter tg : Expr} {ifs : List Expr} {scope : Scope} {own : List (Str × Nat)} {wi : TIp} {tt : TTp} {te : TEp} {g : TG} {mt : Mt}
@[reducible] def tLcP (wi : TIp) (mt : Mt) (te : TEp) (vs : List Nat) : TEp := fun σ M Q => wi σ M (LcP mt te vs σ Q)
@[reducible] def tLcF (wi : TIp) (mt : Mt) (tt : TTp) (te : TEp) (vs : List Nat) : TEp := fun σ M Q => wi σ M (LcF mt tt te vs σ Q)
theorem plcP (hc : X.calm = true) (hN : X.N.Nodup) (hi : PIp' X H0 tg iter wi) (ok : BlkOk X.N X.env.scope scope own) (hm : TgOk X.K g mt (own.map (·.2)))
    (hg : ∀ (s : Shared) (H : Hp) (C : Addr) (cl : List (Str × Addr)) (fp : List Addr), PG (X.blk s H scope (compEnvC scope cl C X.env) fp) tg g)
    (he : ∀ (s : Shared) (H : Hp) (C : Addr) (cl : List (Str × Addr)) (fp : List Addr), PEp (X.blk s H scope (compEnvC scope cl C X.env) fp) H0 elt te) (hs : ∀ x, foldedSetIterable iter X.env x = pure x := by intro _; rfl) :
    PEp X H0 (.ListComp elt [⟨tg, iter, [], 0⟩] scope pos) (tLcP wi mt te (own.map (·.2))) :=
  peW (pe_lc (tt := concT X.K H0 tYes) (te := concE X.K H0 te) hc hN hi ok hg (fun _ _ _ _ _ => ptsnil) he hs) fun σ H Q h => lcR_conc hm (fun _ _ _ _ _ q => LcP.to q) h
theorem pssetlcP (i : Nat) {y : Str} {py spos : Pos} (hc : X.calm = true) (hN : X.N.Nodup) (hyl : X.env.scope.names.lookup y = some .local)
    (hsw : swapsWith (.ListComp elt [⟨tg, iter, [], 0⟩] scope pos) (some (.Name y py)) spos.line X.env = pure true) (hi : PIp' X H0 tg iter wi) (ok : BlkOk X.N X.env.scope scope own) (hm : TgOk X.K g mt (own.map (·.2)))
    (hg : ∀ (s : Shared) (H : Hp) (C : Addr) (cl : List (Str × Addr)) (fp : List Addr), PG (X.blk s H scope (compEnvC scope cl C X.env) fp) tg g)
    (he : ∀ (s : Shared) (H : Hp) (C : Addr) (cl : List (Str × Addr)) (fp : List Addr), PEp (X.blk s H scope (compEnvC scope cl C X.env) fp) H0 elt te) (hy : X.N[i]? = some y := by rfl) (hs : ∀ x, foldedSetIterable iter X.env x = pure x := by intro _; rfl) :
    PSp' X H0 (.Assign [.Name y py] (.ListComp elt [⟨tg, iter, [], 0⟩] scope pos) spos) (tAsg (tLcP wi mt te (own.map (·.2))) (gName i)) :=
  psW (ps_setLc (tt := concT X.K H0 tYes) (te := concE X.K H0 te) hc hN hy hyl hsw hi ok hg (fun _ _ _ _ _ => ptsnil) he hs) fun D σ H ⟨σp, M, Dp, t, s, m, u, k⟩ =>
    lcR_conc hm (R := LcP mt te (own.map (·.2))) (fun _ _ _ _ _ q => LcP.to q) ⟨σp, M, _, t, s, m, u, fun v H1 p M1 t1 m1 r u1 => k.nx _ _ _ _ t1 ((s.mono t1).set r i) m1 u1⟩
theorem plcF (hc : X.calm = true) (hN : X.N.Nodup) (hi : PIp' X H0 tg iter wi) (ok : BlkOk X.N X.env.scope scope own) (hm : TgOk X.K g mt (own.map (·.2)))
    (hg : ∀ (s : Shared) (H : Hp) (C : Addr) (cl : List (Str × Addr)) (fp : List Addr), PG (X.blk s H scope (compEnvC scope cl C X.env) fp) tg g)
    (ht : ∀ (s : Shared) (H : Hp) (C : Addr) (cl : List (Str × Addr)) (fp : List Addr), PTsp (X.blk s H scope (compEnvC scope cl C X.env) fp) H0 ifs tt)
    (he : ∀ (s : Shared) (H : Hp) (C : Addr) (cl : List (Str × Addr)) (fp : List Addr), PEp (X.blk s H scope (compEnvC scope cl C X.env) fp) H0 elt te) (hs : ∀ x, foldedSetIterable iter X.env x = pure x := by intro _; rfl) :
    PEp X H0 (.ListComp elt [⟨tg, iter, ifs, 0⟩] scope pos) (tLcF wi mt tt te (own.map (·.2))) :=
  peW (pe_lc (tt := concT X.K H0 tt) (te := concE X.K H0 te) hc hN hi ok hg ht he hs) fun σ H Q h => lcR_conc hm (fun _ _ _ _ _ q => LcF.to q) h
theorem pssetlcF (i : Nat) {y : Str} {py spos : Pos} (hc : X.calm = true) (hN : X.N.Nodup) (hyl : X.env.scope.names.lookup y = some .local)
    (hsw : swapsWith (.ListComp elt [⟨tg, iter, ifs, 0⟩] scope pos) (some (.Name y py)) spos.line X.env = pure true) (hi : PIp' X H0 tg iter wi) (ok : BlkOk X.N X.env.scope scope own) (hm : TgOk X.K g mt (own.map (·.2)))
    (hg : ∀ (s : Shared) (H : Hp) (C : Addr) (cl : List (Str × Addr)) (fp : List Addr), PG (X.blk s H scope (compEnvC scope cl C X.env) fp) tg g)
    (ht : ∀ (s : Shared) (H : Hp) (C : Addr) (cl : List (Str × Addr)) (fp : List Addr), PTsp (X.blk s H scope (compEnvC scope cl C X.env) fp) H0 ifs tt)
    (he : ∀ (s : Shared) (H : Hp) (C : Addr) (cl : List (Str × Addr)) (fp : List Addr), PEp (X.blk s H scope (compEnvC scope cl C X.env) fp) H0 elt te) (hy : X.N[i]? = some y := by rfl) (hs : ∀ x, foldedSetIterable iter X.env x = pure x := by intro _; rfl) :
    PSp' X H0 (.Assign [.Name y py] (.ListComp elt [⟨tg, iter, ifs, 0⟩] scope pos) spos) (tAsg (tLcF wi mt tt te (own.map (·.2))) (gName i)) :=
  psW (ps_setLc (tt := concT X.K H0 tt) (te := concE X.K H0 te) hc hN hy hyl hsw hi ok hg ht he hs) fun D σ H ⟨σp, M, Dp, t, s, m, u, k⟩ =>
    lcR_conc hm (R := LcF mt tt te (own.map (·.2))) (fun _ _ _ _ _ q => LcF.to q) ⟨σp, M, _, t, s, m, u, fun v H1 p M1 t1 m1 r u1 => k.nx _ _ _ _ t1 ((s.mono t1).set r i) m1 u1⟩
end
theorem g_mt {mt : Mt} {x : PV} {as : List (Nat × PV)} {R : List (Nat × PV) → Prop} (h : mt x = some as) (q : R as) : ∃ as, mt x = some as ∧ R as := ⟨as, h, q⟩
/-! ### comprehensions in comprehensions -/
theorem blkOk_n1 {s1 scope sc0 : Scope} {cl : List (Str × Addr)} {C : Addr} {env : PySem.Env} {N : List Str} {own : List (Str × Nat)} (he : env.scope = sc0) (h : blkC N (relS s1 sc0) scope own = true) : BlkOk N (compEnvC s1 cl C env).scope scope own := by
  subst he; exact blkOk_by h
theorem blkOk_n2 {s1 s2 scope sc0 : Scope} {cl cl2 : List (Str × Addr)} {C C2 : Addr} {env : PySem.Env} {N : List Str} {own : List (Str × Nat)} (he : env.scope = sc0) (h : blkC N (relS s2 (relS s1 sc0)) scope own = true) : BlkOk N (compEnvC s2 cl2 C2 (compEnvC s1 cl C env)).scope scope own := by
  subst he; exact blkOk_by h
theorem blkOk_n3 {s1 s2 s3 scope sc0 : Scope} {cl cl2 cl3 : List (Str × Addr)} {C C2 C3 : Addr} {env : PySem.Env} {N : List Str} {own : List (Str × Nat)} (he : env.scope = sc0) (h : blkC N (relS s3 (relS s2 (relS s1 sc0))) scope own = true) : BlkOk N (compEnvC s3 cl3 C3 (compEnvC s2 cl2 C2 (compEnvC s1 cl C env))).scope scope own := by
  subst he; exact blkOk_by h
/-! ### a tuple's methods -/
section
variable {o e : Expr} {es : List Expr} {to : TEp} {ta : TAp} {name : Str} {apos cpos : Pos} {id : String} {u : RMp}
@[reducible] def tTM (u : RMp) (to : TEp) (ta : TAp) : TEp := fun σ M Q => to σ M fun x M1 => match x with | .tup l => ta σ M1 fun ps M2 => u (.tup l) ps M2 Q | _ => False
theorem ptm (slot : Slot "tuple" name id) (hty : typeOf (.builtin id) = pure (.type "method_descriptor")) (hm : MtP X id u) (ho : PEp X H0 o to) (ha : PAp X H0 (e :: es) ta)
    (h1 : attributeBase o name X.env (eval o X.env) = eval o X.env := by rfl)
    (h2 : (((backTo cpos (starEach (e :: es) X.env)).all (fun x => !x.1) && (backToKw cpos (keywordEach [] X.env)).all (fun x => x.1.isSome)) && decide ((e :: es).length + ([] : List Keyword).length + (if ([] : List Keyword).isEmpty then 0 else 1) < 30)) = true := by rfl)
    (h3 : (apos.endLine == cpos.line) = true := by rfl) (h4 : starEach (e :: es) X.env = (false, eval e X.env) :: starEach es X.env := by rfl) (h5 : (backTo cpos (starEach es X.env)).any (·.1) = false := by rfl) :
    PEp X H0 (.Call (.Attribute o name apos) (e :: es) [] cpos) (tTM u to ta) := by
  obtain ⟨r, hr, hu⟩ := hm
  refine peW (pe_bmX slot hty hr ho ha h1 h2 h3 h4 h5) fun σ H Q ⟨σp, M, Qp, t, s, m, q, k⟩ => ⟨σp, M, _, t, s, m, q, fun x H1 px M1 t1 m1 rx u1 => ?_⟩
  cases rx with
  | tup h r0 =>
    refine ⟨⟨_, _, rfl, h⟩, σp, M1, _, t.trans t1, s.mono t1, m1, u1, fun vs H2 ps M2 t2 m2 rs u2 => ?_⟩
    exact hu _ _ _ _ _ _ _ _ (.tup (t2 _ _ h) (r0.mono t2)) rs m2 u2 fun v H3 p M3 t3 => k v H3 p M3 (t1.trans (t2.trans t3))
  | _ => exact u1.elim
/-- t.index(x) -/
def tIdxP : RMp := fun x ps M Q => match x, ps with
  | .tup l, [.int k] => ∃ ns : List Int, l = ns.map PV.int ∧ k ∈ ns ∧ Q (.int (ns.idxOf k : Nat)) M
  | .tup l, [.str k] => ∃ ns : List Str, l = ns.map PV.str ∧ k ∈ ns ∧ Q (.int (ns.idxOf k : Nat)) M
  | _, _ => False
theorem mIdxT : MtP X "tuple.index" tIdxP := by
  refine ⟨_, mt_idxT, fun x xs H px ps M Q Qp rx rs m u k => ?_⟩
  cases rx with
  | tup h r =>
    cases rs with
    | nil => exact u.elim
    | cons r1 rr => cases rr with
      | cons _ _ => cases r1 <;> exact u.elim
      | nil => cases r1 with
        | int i =>
          obtain ⟨ns, rfl, hk, q⟩ := u
          have e := r.ints
          subst e
          exact ⟨_, rfl, .inl ⟨ns, i, rfl, h.t, hk, k _ _ _ _ (Tk.refl _ _) m (.int _) q⟩⟩
        | str i =>
          obtain ⟨ns, rfl, hk, q⟩ := u
          have e := r.strs
          subst e
          exact ⟨_, rfl, .inr ⟨ns, i, rfl, h.t, hk, k _ _ _ _ (Tk.refl _ _) m (.int _) q⟩⟩
        | _ => exact u.elim
  | _ => exact u.elim
end
end
end PL

set_option Elab.async false
set_option linter.all false
set_option maxRecDepth 100000
set_option maxHeartbeats 2000000
/-! PL12: pure data; slices; sorted of pure data; tuple * int; whole numbers of the module. -/
namespace PLraw
open PySem PySem.Spec PySem.Calls PyProof.Rows
section
variable {prog : Program} {w : World} {A : Around} {E : Value → Shared → Prop} {s : Shared}
/-- sorted(x) of a tuple, by a sort that may look at what stood -/
theorem sorted_tupK {l : Addr} {vs : List Value} {Q : Value → Shared → Prop} {R : Array Value → Prop} (tup : s.heap.IsTuple l vs.toArray) (few : vs.length ≤ sizeLine)
    (sorts : ∀ (t : Shared) (a : Addr) (P : Fin → Shared → Prop), t.heap.get? a = some (seqObj "list" vs.toArray 0) → (∀ b o, s.heap.get? b = some o → b ≠ a ∧ t.heap.get? b = some o) → (∀ out, R out → P (.done (.ret .none)) { t with heap := sortedHeap t.heap a vs out }) → ∀ E, wpAny (model prog w) A.in1.in1 (Builtin.«list.sort» ⟨[.ref a], []⟩) P E t)
    (h : ∀ out, R out → Q (.ref (s.heap.objs.size + 1)) { s with heap := sortedAll s.heap vs out }) : wpAny (model prog w) A (call (.builtin "sorted") [.ref l]) Q E s := by
  have count : ((s.heap.push (seqObj "list" #[] 0)).update s.heap.objs.size (Obj.mapSeq (· ++ vs.toArray))).objs.size = s.heap.objs.size + 1 := (Heap.size_update _ _ _).trans (size_push' _ _)
  have laid : (((s.heap.push (seqObj "list" #[] 0)).update s.heap.objs.size (Obj.mapSeq (· ++ vs.toArray))).push (seqObj "list" vs.toArray 0)).get? (s.heap.objs.size + 1) = some (seqObj "list" vs.toArray 0) := count ▸ Heap.get?_push_size _ rfl
  have stay : ∀ b o, s.heap.get? b = some o → b ≠ s.heap.objs.size + 1 ∧ (((s.heap.push (seqObj "list" #[] 0)).update s.heap.objs.size (Obj.mapSeq (· ++ vs.toArray))).push (seqObj "list" vs.toArray 0)).get? b = some o := fun b o e => by
    have under := Heap.lt_size e
    refine ⟨Nat.ne_of_lt (Nat.lt_succ_of_lt under), Heap.get?_push_of_some _ ?_⟩
    rw [Heap.get?_update_ne _ _ _ _ (Nat.ne_of_lt under)]; exact Heap.get?_push_of_some _ e
  refine (Calls.call_function_entry kind_sorted plain_sorted entry_sorted (args_sorted1 _) ?_)
  unfold Builtin.«sorted»
  refine wpAny_bind (m := checkCount "sorted" 1 1 _) (wpAny_pure (wpAny_bind (gather_tup tup few (wpAny_bind (wpAny_newList ?_)))))
  change wpAny _ _ _ _ _ { s with heap := ((s.heap.push (seqObj "list" #[] 0)).update s.heap.objs.size (Obj.mapSeq (· ++ vs.toArray))).push (seqObj "list" vs.toArray 0) }
  rw [count]
  exact wpAny_bind (wpAny_holding (wpAny_call_entry slot_list_sort ⟨_, laid, rfl⟩ entry_list_sort (sorts { s with heap := _ } _ _ laid stay (fun out ro => ⟨_, rfl, wpAny_pure ⟨_, rfl, h out ro⟩⟩) _) (args_list_sort _)))
end
end PLraw
namespace PL
open PySem L2
section
variable {X : Cx} {H0 : Hp} {pos : Pos} {K : Kf}
/-- data without lists -/
inductive PureD : Nat → PV → Prop
  | non {n} : PureD (n + 1) .non
  | bl {n} (b) : PureD (n + 1) (.bl b)
  | int {n} (i) : PureD (n + 1) (.int i)
  | str {n} (x) : PureD (n + 1) (.str x)
  | tup {n l} : l.length ≤ 16777216 → (∀ x ∈ l, PureD n x) → PureD (n + 1) (.tup l)
mutual
def toD : PV → PyData
  | .non => .none
  | .bl b => .bool b
  | .int i => .int i
  | .str x => .str x
  | .tup l => .tuple (toDs l)
  | .ref _ => .none
  | .ty _ => .none
def toDs : List PV → List PyData
  | [] => []
  | x :: r => toD x :: toDs r
end
theorem toDs_map : ∀ l : List PV, toDs l = l.map toD
  | [] => rfl
  | x :: r => by rw [toDs, toDs_map r]; rfl
theorem PureD.dp {M : PHp} : ∀ {n : Nat} {x : PV}, PureD n x → DpP K M x (toD x)
  | _, _, .non => .non
  | _, _, .bl _ => .bl _
  | _, _, .int _ => .int _
  | _, _, .str _ => .str _
  | n + 1, .tup l, .tup _ h => by
    have key : ∀ l : List PV, (∀ x ∈ l, PureD n x) → DpsP K M l (toDs l) := by
      intro l
      induction l with
      | nil => intro _; exact .nil
      | cons x r ih => intro h; exact .cons (PureD.dp (h x List.mem_cons_self)) (ih fun y hy => h y (List.mem_cons_of_mem _ hy))
    exact .tup (key l h)
theorem PureD.depth : ∀ {n : Nat} {x : PV}, PureD n x → (toD x).depth ≤ n
  | _, _, .non => Nat.zero_le _
  | _, _, .bl _ => Nat.zero_le _
  | _, _, .int _ => Nat.zero_le _
  | _, _, .str _ => Nat.zero_le _
  | n + 1, .tup l, .tup _ h => by
    have key : ∀ l : List PV, (∀ x ∈ l, PureD n x) → PyData.depthAll (toDs l) ≤ n := by
      intro l
      induction l with
      | nil => intro _; exact Nat.zero_le _
      | cons x r ih =>
        intro h
        show max (toD x).depth (PyData.depthAll (toDs r)) ≤ n
        exact Nat.max_le.mpr ⟨PureD.depth (h x List.mem_cons_self), ih fun y hy => h y (List.mem_cons_of_mem _ hy)⟩
    show PyData.depthAll (toDs l) + 1 ≤ n + 1
    exact Nat.succ_le_succ (key l h)
/-! ### slices -/
abbrev TOp := PSt → PHp → (Option Int → PHp → Prop) → Prop
def concO (K : Kf) (H0 : Hp) (u : TOp) : TO := fun σ H Q => ∃ σp M Qp, Tk K H0 H ∧ RelS K H σp σ ∧ RelM K H M ∧ u σp M Qp ∧ ∀ b H' M', Tk K H H' → RelM K H' M' → Qp b M' → Q b H'
abbrev POp (X : Cx) (H0 : Hp) (e : Option Expr) (u : TOp) : Prop := PO X e (concO X.K H0 u)
@[reducible] def tNoP : TOp := fun _ M Q => Q none M
@[reducible] def tSomeP (t : TEp) : TOp := fun σ M Q => t σ M fun x M1 => match x with | .int i => Q (some i) M1 | _ => False
theorem poW {e : Option Expr} {t t' : TO} (h : PO X e t) (w : ∀ σ H Q, t' σ H Q → t σ H Q) : PO X e t' := ⟨fun pins s σ H Q I q => h.run pins s σ H Q I (w _ _ _ q)⟩
theorem ponone : POp X H0 none tNoP := poW po_none fun σ H Q ⟨_, M, _, _, _, m, u, k⟩ => k none H M (Tk.refl _ _) m u
theorem posome {e : Expr} {t : TEp} (h : PEp X H0 e t) : POp X H0 (some e) (tSomeP t) :=
  poW (po_some h) fun σ H Q ⟨σp, M, Qp, t, s, m, u, k⟩ => ⟨σp, M, _, t, s, m, u, fun x H1 px M1 t1 m1 rx u1 => by
    cases rx with
    | int i => exact ⟨i, rfl, k _ _ _ t1 m1 u1⟩
    | _ => exact u1.elim⟩
def cutL {α : Type} (xs : List α) (lo hi : Option Int) : List α := (xs.drop (HT.sIx xs.length 0 lo)).take (HT.sIx xs.length xs.length hi - HT.sIx xs.length 0 lo)
theorem cutL_map {α β : Type} (f : α → β) (xs : List α) (lo hi : Option Int) : cutL (xs.map f) lo hi = (cutL xs lo hi).map f := by
  unfold cutL; rw [List.length_map, List.map_take, List.map_drop]
theorem cutL_all {α : Type} {xs : List α} {lo hi : Option Int} (h : HT.sIx xs.length 0 lo = 0 ∧ HT.sIx xs.length xs.length hi = xs.length) : cutL xs lo hi = xs := by
  unfold cutL; rw [h.1, h.2]; simp
theorem cutL_len {α : Type} (xs : List α) (lo hi : Option Int) : (cutL xs lo hi).length ≤ xs.length := by
  unfold cutL; rw [List.length_take, List.length_drop]; omega
theorem cutL_mem {α : Type} {xs : List α} {lo hi : Option Int} {x : α} (h : x ∈ cutL xs lo hi) : x ∈ xs := List.mem_of_mem_drop (List.mem_of_mem_take h)
theorem Reps.cut {H : Hp} {ps : List PV} {vs : List V} (r : Reps K H ps vs) (lo hi : Option Int) : Reps K H (cutL ps lo hi) (cutV vs lo hi) := by
  unfold cutL cutV
  rw [r.length]
  exact (r.drop _).take _
def sliceP (K : Kf) (x : PV) (lo hi : Option Int) (M : PHp) (Q : PVK) : Prop := match x with
  | .tup l => Q (.tup (cutL l lo hi)) M
  | .ref a => ∃ l, rdL K M a l ∧ ∀ p, M p = none → Q (.ref p) (updM M p (.lst (cutL l lo hi)))
  | .str z => z.length ≤ sizeLine ∧ Q (.str (cutS z lo hi)) M
  | _ => False
@[reducible] def tSlP (K : Kf) (te : TEp) (tl th : TOp) : TEp := fun σ M Q => te σ M fun x M1 => tl σ M1 fun l M2 => th σ M2 fun h M3 => sliceP K x l h M3 Q
theorem pslice {e : Expr} {lo hi : Option Expr} {te : TEp} {tl th : TOp} {p2 : Pos} (he : PEp X H0 e te) (hl : POp X H0 lo tl) (hh : POp X H0 hi th) (hK : X.K = K := by rfl) : PEp X H0 (.Subscript e (.Slice lo hi none p2) pos) (tSlP K te tl th) := by
  subst hK
  refine peW (pe_slice ((sl_tupX.or sl_list).or sl_str) he hl hh) fun σ H Q ⟨σp, M, Qp, t, s, m, u, k⟩ => ⟨σp, M, _, t, s, m, u, fun x H1 px M1 t1 m1 rx u1 => ⟨σp, M1, _, t.trans t1, s.mono t1, m1, u1, fun l H2 M2 t2 m2 u2 => ⟨σp, M2, _, (t.trans t1).trans t2, (s.mono t1).mono t2, m2, u2, fun h H3 M3 t3 m3 u3 => ?_⟩⟩⟩
  have kk : Kont X.K H3 Q Qp := fun v H4 p M4 t4 => k v H4 p M4 (((t1.trans t2).trans t3).trans t4)
  have rx := (rx.mono t2).mono t3
  cases rx with
  | tup hs r =>
    refine .inl (.inl ⟨_, _, rfl, hs, fun w => ?_, fun _ => new_tup m3 (r.cut _ _) u3 kk⟩)
    have w2 := w
    rw [← r.length] at w2
    have u4 : Qp (.tup _) M3 := u3
    rw [cutL_all w2] at u4
    exact old_tup m3 hs r u4 kk
  | ref a =>
    obtain ⟨l0, hl0, q⟩ := u3
    obtain ⟨vs, e, r⟩ := hl0.to m3
    exact .inl (.inr ⟨_, _, rfl, e, fun p hp => new_lst m3 hp (r.cut _ _) q kk⟩)
  | str z => exact .inr ⟨z, rfl, u3.1, kk _ _ _ _ (Tk.refl _ _) m3 (.str _) u3.2⟩
  | _ => exact u3.elim
/-! ### whole numbers of the module -/
theorem pglobI {x : Str} {i : Int} (hg : Gl X x) (hm : ∃ t, X.mg x = some (.int i t)) (hd : (x == ("__debug__" : Str)) = false := by decide) : PEp X H0 (.Name x pos) (tc (.int i)) := by
  obtain ⟨t, hm⟩ := hm
  exact pglob hg hm (v := .int i) ⟨t, rfl⟩ (fun _ => .int i) hd
/-! ### sorted of pure data -/
open PySem.W (AllAlike Sortable EachIs dataLe) in
def rSortC (K : Kf) : List V → Hp → VK → Prop := fun vs H Q => ∃ (a : Addr) (c : List (PV × V)), vs = [V.ref a] ∧ (SqL K H a (c.map (·.2)) ∨ SqT K H a (c.map (·.2))) ∧ (∀ b ∈ c, Dp K H b.2 (toD b.1) ∧ (toD b.1).depth ≤ 40) ∧
  AllAlike (c.map fun b => toD b.1) ∧ Sortable (c.map fun b => toD b.1) ∧ ∀ p, H p = none → Q (.ref p) (upd H p (.lst ((c.mergeSort (dataLe false fun b => toD b.1)).map (·.2))))
theorem each_rel : ∀ {c : List (PV × V)} {its : List Value}, Vals (c.map (·.2)) its → PySem.W.EachIs (fun v b => RelV b.2 v) its c
  | [], _, .nil => .nil
  | _ :: _, _, .cons r t => .cons r (each_rel t)
theorem rel_each : ∀ {c : List (PV × V)} {its : List Value}, PySem.W.EachIs (fun v b => RelV b.2 v) its c → Vals (c.map (·.2)) its
  | _, _, .nil => .nil
  | _, _, .cons r t => .cons r (rel_each t)
theorem each_reads {pins : List (Addr × Obj)} {σ : L2.St} {H : Hp} {s : Shared} (I : Inv X pins σ H s) : ∀ {c : List (PV × V)} {its : List Value}, (∀ b ∈ c, Dp X.K H b.2 (toD b.1) ∧ (toD b.1).depth ≤ 40) → Vals (c.map (·.2)) its → PySem.W.EachIs (fun v b => ∃ as, Reads s.heap v (toD b.1) as) its c
  | [], _, _, .nil => .nil
  | b :: _, _, h, .cons r t => .cons (Dp.reads I _ _ _ (h b List.mem_cons_self).1 r) (each_reads I (fun y hy => h y (List.mem_cons_of_mem _ hy)) t)
theorem each_len {α β : Type} {R : α → β → Prop} : ∀ {as : List α} {bs : List β}, PySem.W.EachIs R as bs → as.length = bs.length
  | _, _, .nil => rfl
  | _, _, .cons _ t => congrArg (· + 1) (each_len t)
theorem cr_sortC (hu : X.A.units + 64 < cLine) : CallR X (.builtin "sorted") (rSortC X.K) := by
  rintro pins s σ H vs us Q I r ⟨a, c, rfl, here, dps, ali, sor, q⟩
  have fin : ∀ (its : List Value) (out : List Value), c.length ≤ sizeLine → PySem.W.EachIs (fun v b => RelV b.2 v) out (c.mergeSort (PySem.W.dataLe false fun b => toD b.1)) → EP X pins σ Q (.ref (s.heap.objs.size + 1)) { s with heap := PyProof.Rows.sortedAll s.heap its out.toArray } := fun its out few h1 => by
    obtain ⟨ep, at_new⟩ := PyProof.Rows.sortedAll_at s.heap its out.toArray
    refine ⟨.ref _, upd H (s.heap.objs.size + 1) (.lst ((c.mergeSort (PySem.W.dataLe false fun b => toD b.1)).map (·.2))), I.laid (t' := s.toks) (fun _ _ => PyProof.Rows.sortedAll_old) (Nat.le_succ _) ⟨?_, out, ep, rel_each h1, at_new⟩, rfl, q _ (I.hok.fresh (Nat.le_succ _))⟩
    rw [List.length_map, List.length_mergeSort]; exact few
  have room : ∀ b, b ∈ c → X.A.units + 2 + (toD b.1).depth < cLine := fun b hb => by have := (dps b hb).2; omega
  rw [Vals.ref1 r]
  rcases here with here | here
  · obtain ⟨its, rv, pl, few⟩ := I.list here
    rw [List.length_map] at few
    exact PySem.W.sorted_data pl.isList (each_rel rv) (each_reads I dps rv) ali sor few room fun out h0 h1 => fin its out few h1
  · obtain ⟨its, rv, tup, few⟩ := I.tuple here
    rw [List.length_map] at few
    have len : its.length = c.length := by rw [← rv.length, List.length_map]
    refine PLraw.sorted_tupK (R := fun out => PySem.W.EachIs (fun v b => RelV b.2 v) out.toList (c.mergeSort (PySem.W.dataLe false fun b => toD b.1))) tup (by omega) (fun t ax P at_b stay k E => ?_) fun out h1 => ?_
    · have er : PySem.W.EachIs (fun v b => ∃ as, Reads (PySem.W.sortingHeap t.heap ax its) v (toD b.1) as) its c := (each_reads I dps rv).mono fun _ _ ⟨as, rd⟩ => ⟨as, PyProof.Rows.Reads.keeps (fun x o e => PySem.W.sortingHeap_old (stay x o e).1 (stay x o e).2) rd⟩
      refine PySem.W.list_sort_vals (κ := PySem.W.dataKind (PySem.W.sortingHeap t.heap ax its) (c.map fun b : PV × V => toD b.1)) at_b (PySem.W.SortsAt.data (s := { t with heap := PySem.W.sortingHeap t.heap ax its }) (PySem.W.each_map (R := fun v d => ∃ as, Reads (PySem.W.sortingHeap t.heap ax its) v d as) (fun b : PV × V => toD b.1) er) ali sor (PySem.W.bound_map room)) (by omega) (k _ ?_)
      rw [List.toList_toArray]
      exact PySem.W.sortVals_data false (each_rel rv) er ali
    · have z := fin its out.toList few h1
      rw [Array.toArray_toList] at z
      exact z
def sortDP (K : Kf) : RCp := fun xs M Q => ∃ l : List PV, (match xs with | [.tup l'] => l' = l | [.ref a] => rdL K M a l | _ => False) ∧ (∀ x ∈ l, PureD 40 x) ∧ PySem.W.AllAlike (l.map toD) ∧ PySem.W.Sortable (l.map toD) ∧
  ∀ p, M p = none → Q (.ref p) (updM M p (.lst (l.mergeSort (PySem.W.dataLe false toD))))
theorem reps_zip {H : Hp} : ∀ {l : List PV} {vs : List V}, Reps K H l vs → (l.zip vs).map (·.1) = l ∧ (l.zip vs).map (·.2) = vs ∧ ∀ b ∈ l.zip vs, Rep K H b.1 b.2 ∧ b.1 ∈ l
  | _, _, .nil => ⟨rfl, rfl, fun _ h => nomatch h⟩
  | _, _, .cons (p := p) (v := v) r t => by
    obtain ⟨h1, h2, h3⟩ := reps_zip t
    refine ⟨congrArg (p :: ·) h1, congrArg (v :: ·) h2, fun b hb => ?_⟩
    rcases List.mem_cons.mp hb with rfl | hb
    · exact ⟨r, List.mem_cons_self⟩
    · exact ⟨(h3 b hb).1, List.mem_cons_of_mem _ (h3 b hb).2⟩
theorem zip_reps {H : Hp} : ∀ {c : List (PV × V)}, (∀ b ∈ c, Rep K H b.1 b.2) → Reps K H (c.map (·.1)) (c.map (·.2))
  | [], _ => .nil
  | b :: _, h => .cons (h b List.mem_cons_self) (zip_reps fun y hy => h y (List.mem_cons_of_mem _ hy))
theorem cSortD (hu : X.A.units + 64 < cLine) : CallP X (.builtin "sorted") (sortDP X.K) := by
  refine ⟨_, cr_sortC hu, fun xs H ps M Q Qp rs m u k => ?_⟩
  obtain ⟨l, u, pure, ali, sor, q⟩ := u
  have go : ∀ (a : Addr) (vs : List V), (SqL X.K H a vs ∨ SqT X.K H a vs) → Reps X.K H l vs → rSortC X.K [V.ref a] H Q := fun a vs here r => by
    obtain ⟨z1, z2, z3⟩ := reps_zip r
    have e1 : ((l.zip vs).map fun b => toD b.1) = l.map toD := by have h := congrArg (List.map toD) z1; rw [List.map_map] at h; exact h
    refine ⟨a, l.zip vs, rfl, by rw [z2]; exact here, fun b hb => ⟨(pure _ (z3 b hb).2).dp.to m (z3 b hb).1, (pure _ (z3 b hb).2).depth⟩, by rw [e1]; exact ali, by rw [e1]; exact sor, fun p hp => ?_⟩
    have perm := List.mergeSort_perm (l.zip vs) (PySem.W.dataLe false fun b => toD b.1)
    have rr : Reps X.K H (((l.zip vs).mergeSort (PySem.W.dataLe false fun b => toD b.1)).map (·.1)) (((l.zip vs).mergeSort (PySem.W.dataLe false fun b => toD b.1)).map (·.2)) := zip_reps fun b hb => (z3 b (perm.mem_iff.mp hb)).1
    have e2 : ((l.zip vs).mergeSort (PySem.W.dataLe false fun b => toD b.1)).map (·.1) = l.mergeSort (PySem.W.dataLe false toD) := by
      have := List.map_mergeSort (r := PySem.W.dataLe false fun b : PV × V => toD b.1) (s := PySem.W.dataLe false toD) (f := (·.1)) (l := l.zip vs) (fun _ _ _ _ => rfl)
      rw [z1] at this; exact this
    rw [e2] at rr
    exact new_lst m hp rr q k
  cases rs with
  | nil => exact u.elim
  | cons r rr => cases rr with
    | cons _ _ => cases r <;> exact u.elim
    | nil => cases r with
      | tup h r =>
        subst u
        exact go _ _ (.inr h.t) r
      | ref a =>
        obtain ⟨vs, e, r⟩ := u.to m
        exact go _ _ (.inl e) r
      | _ => exact u.elim
theorem cSortDK (hu : X.A.units + 64 < cLine) (hK : X.K = K := by rfl) : CallP X (.builtin "sorted") (sortDP K) := hK ▸ cSortD hu
end
end PL

set_option Elab.async false
set_option linter.all false
set_option maxRecDepth 100000
set_option maxHeartbeats 4000000
/-! PL13: dict(zip(t, u)) of two tuples; dicts with whole numbers and texts as keys. -/
namespace PLz
open PySem PySem.Spec PySem.Calls PyProof.Rows
section
variable {prog : Program} {w : World} {A : Around} {E : Value → Shared → Prop} {s : Shared}
/-- the next pair of a zip of tuples whose last pair is still out -/
theorem next_held {zp ti to_ T j1 j2 t1 t2 : Addr} {f : Bool} {oT : Obj} {k1 k2 : Nat} {xs ys : Array Value} {x y : Value} {Q : Value → Shared → Prop} (D : ZipApart zp ti to_ j1 j2 t1 t2)
    (hz : IsZipHeld s.heap zp ti to_ T f) (hT : s.heap.get? T = some oT) (hp : IsPair s.heap ti (.ref j1) (.ref j2))
    (h1 : s.heap.IsTupleIter j1 t1 k1) (h2 : s.heap.IsTupleIter j2 t2 k2) (ht1 : s.heap.IsTuple t1 xs) (ht2 : s.heap.IsTuple t2 ys) (hx : xs[k1]? = some x) (hy : ys[k2]? = some y)
    (fin : ∀ h', IsZipHeld h' zp ti to_ T true → h'.IsTupleIter j1 t1 (k1 + 1) → h'.IsTupleIter j2 t2 (k2 + 1) → IsPair h' s.heap.objs.size x y → h'.objs.size = s.heap.objs.size + 1 →
      (∀ c o, c ≠ zp → c ≠ j1 → c ≠ j2 → s.heap.get? c = some o → h'.get? c = some o) → Q (.ref s.heap.objs.size) { s with heap := h' }) :
    wpAny (model prog w) A (Builtin.«zip.__next__» ⟨[.ref zp], []⟩) (fun e s' => ∃ v, e = .done (.ret v) ∧ Q v s') E s := by
  change wpAny _ _ (field (.ref zp) 2 >>= _) _ _ _
  refine wpAny_bind (wpAny_field hz rfl (x := Value.bool false) rfl ?_)
  change wpAny _ _ (field (.ref zp) 3 >>= _) _ _ _
  refine wpAny_bind (wpAny_field hz rfl (x := Value.ref ti) rfl (wpAny_bind (wpAny_seqItems hp rfl ?_)))
  change wpAny _ _ (Builtin.SmallTypes.ownedTupleIsFree (.ref zp) >>= _) _ _ _
  refine wpAny_bind (wpAny_tupleHeld_zip hz hT fun ha hza sa => ?_)
  simp only [Bool.false_eq_true, if_false]
  rw [← Array.forIn_toList]
  simp only [List.forIn_cons, List.forIn_nil]
  refine wpAny_bind (wpAny_bind (wpAny_bind (wpAny_holding ?_)))
  change wpAny _ _ (Builtin.SmallTypes.nextOf (.ref j1) >>= _) _ _ _
  refine wpAny_bind (RZ.nextOf_tuple_item (s := { s with heap := ha }) (h1.extBut sa.extBut D.i1z) (ht1.extBut sa.extBut D.l1z) hx fun hb h1b sb => wpAny_pure (wpAny_pure (wpAny_bind (wpAny_bind (wpAny_holding ?_)))))
  change wpAny _ _ (Builtin.SmallTypes.nextOf (.ref j2) >>= _) _ _ _
  refine wpAny_bind (RZ.nextOf_tuple_item (s := { s with heap := hb }) ((h2.extBut sa.extBut D.i2z).extBut sb.extBut D.i12.symm) ((ht2.extBut sa.extBut D.l2z).extBut sb.extBut D.l2i1) hy fun hc h2c sc => wpAny_pure (wpAny_pure (wpAny_pure ?_)))
  change wpAny _ _ (newTuple [x, y] >>= _) _ _ _
  refine wpAny_bind (wpAny_newTuple ?_)
  have size : hc.objs.size = s.heap.objs.size := by rw [sc.1, sb.1, sa.1]
  have hzc : IsZipHeld hc zp ti to_ T true := sc.extBut _ _ D.i2z.symm (sb.extBut _ _ D.i1z.symm hza)
  have stay : ∀ c o, c ≠ zp → c ≠ j1 → c ≠ j2 → s.heap.get? c = some o → hc.get? c = some o := fun c o n1 n2 n3 e => sc.extBut _ _ n3 (sb.extBut _ _ n2 (sa.extBut _ _ n1 e))
  refine wpAny_pure ⟨_, rfl, ?_⟩
  change Q (.ref hc.objs.size) _
  have pair : IsPair (hc.push { cls := .type "tuple", data := .seq #[x, y] }) hc.objs.size x y := Heap.get?_push_size _ rfl
  have more : (hc.push { cls := .type "tuple", data := .seq #[x, y] }).objs.size = hc.objs.size + 1 := Heap.size_push ..
  rw [size] at pair more ⊢
  exact fin _ (Heap.get?_push_of_some _ hzc) ((h1b.extBut sc.extBut D.i12).at fun o e => Heap.get?_push_of_some _ e) (h2c.at fun o e => Heap.get?_push_of_some _ e) pair more fun c o n1 n2 n3 e => Heap.get?_push_of_some _ (stay c o n1 n2 n3 e)
theorem end_held {zp ti to_ T j1 j2 t1 t2 : Addr} {f : Bool} {oT : Obj} {k1 k2 : Nat} {xs ys : Array Value} {Q : Fin → Shared → Prop} (calm : A.handled = none) (D : ZipApart zp ti to_ j1 j2 t1 t2)
    (hz : IsZipHeld s.heap zp ti to_ T f) (hT : s.heap.get? T = some oT) (hp : IsPair s.heap ti (.ref j1) (.ref j2))
    (h1 : s.heap.IsTupleIter j1 t1 k1) (h2 : s.heap.IsTupleIter j2 t2 k2) (ht1 : s.heap.IsTuple t1 xs) (ht2 : s.heap.IsTuple t2 ys) (last : xs[k1]? = none ∨ ys[k2]? = none)
    (stop : ∀ h' e, (∀ c o, c ≠ zp → c ≠ j1 → c ≠ j2 → s.heap.get? c = some o → h'.get? c = some o) → (∃ o, h'.get? e = some o ∧ o.cls = .type "StopIteration") → E (.ref e) { s with heap := h' }) :
    wpAny (model prog w) A (Builtin.«zip.__next__» ⟨[.ref zp], []⟩) Q E s := by
  change wpAny _ _ (field (.ref zp) 2 >>= _) _ _ _
  refine wpAny_bind (wpAny_field hz rfl (x := Value.bool false) rfl ?_)
  change wpAny _ _ (field (.ref zp) 3 >>= _) _ _ _
  refine wpAny_bind (wpAny_field hz rfl (x := Value.ref ti) rfl (wpAny_bind (wpAny_seqItems hp rfl ?_)))
  change wpAny _ _ (Builtin.SmallTypes.ownedTupleIsFree (.ref zp) >>= _) _ _ _
  refine wpAny_bind (wpAny_tupleHeld_zip hz hT fun ha hza sa => ?_)
  simp only [Bool.false_eq_true, if_false]
  rw [← Array.forIn_toList]
  simp only [List.forIn_cons, List.forIn_nil]
  refine wpAny_bind (wpAny_bind (wpAny_bind (wpAny_holding ?_)))
  change wpAny _ _ (Builtin.SmallTypes.nextOf (.ref j1) >>= _) _ _ _
  cases hx : xs[k1]? with
  | none =>
    refine wpAny_bind (RZ.nextOf_tuple_end (s := { s with heap := ha }) calm (h1.extBut sa.extBut D.i1z) (ht1.extBut sa.extBut D.l1z) hx fun hb e sb he => ?_)
    exact stop hb e (fun c o n1 n2 _ q => sb _ _ n2 (sa.extBut _ _ n1 q)) he
  | some x =>
    have hy : ys[k2]? = none := last.resolve_left fun q => by rw [hx] at q; cases q
    refine wpAny_bind (RZ.nextOf_tuple_item (s := { s with heap := ha }) (h1.extBut sa.extBut D.i1z) (ht1.extBut sa.extBut D.l1z) hx fun hb h1b sb => wpAny_pure (wpAny_pure (wpAny_bind (wpAny_bind (wpAny_holding ?_)))))
    change wpAny _ _ (Builtin.SmallTypes.nextOf (.ref j2) >>= _) _ _ _
    refine wpAny_bind (RZ.nextOf_tuple_end (s := { s with heap := hb }) calm ((h2.extBut sa.extBut D.i2z).extBut sb.extBut D.i12.symm) ((ht2.extBut sa.extBut D.l2z).extBut sb.extBut D.l2i1) hy fun hc e sc he => ?_)
    exact stop hc e (fun c o n1 n2 n3 q => sc _ _ n3 (sb.extBut _ _ n2 (sa.extBut _ _ n1 q))) he
theorem pyNext_held {zp ti to_ T j1 j2 t1 t2 : Addr} {f : Bool} {oT : Obj} {k1 k2 : Nat} {xs ys : Array Value} {x y : Value} {Q : Option Value → Shared → Prop} (D : ZipApart zp ti to_ j1 j2 t1 t2)
    (hz : IsZipHeld s.heap zp ti to_ T f) (hT : s.heap.get? T = some oT) (hp : IsPair s.heap ti (.ref j1) (.ref j2))
    (h1 : s.heap.IsTupleIter j1 t1 k1) (h2 : s.heap.IsTupleIter j2 t2 k2) (ht1 : s.heap.IsTuple t1 xs) (ht2 : s.heap.IsTuple t2 ys) (hx : xs[k1]? = some x) (hy : ys[k2]? = some y)
    (fin : ∀ h', IsZipHeld h' zp ti to_ T true → h'.IsTupleIter j1 t1 (k1 + 1) → h'.IsTupleIter j2 t2 (k2 + 1) → IsPair h' s.heap.objs.size x y → h'.objs.size = s.heap.objs.size + 1 →
      (∀ c o, c ≠ zp → c ≠ j1 → c ≠ j2 → s.heap.get? c = some o → h'.get? c = some o) → Q (some (.ref s.heap.objs.size)) { s with heap := h' }) :
    wpAny (model prog w) A (pyNext (.ref zp)) Q E s := by
  have isZ : s.TypeIs (.ref zp) "zip" := ⟨_, hz, rfl⟩
  unfold pyNext
  exact wpAny_bind (wpAny_attempt (wpAny_callSpecial?_slot (name := Str.ofString "__next__") isZ F.slot_zip_next
    (wpAny_call_entry F.slot_zip_next isZ F.entry_zip_next (next_held D hz hT hp h1 h2 ht1 ht2 hx hy fun h' a1 a2 a3 a4 a5 a6 => wpAny_pure (fin h' a1 a2 a3 a4 a5 a6)) (F.args_zip_next_1 _))))
theorem pyNext_end_held {zp ti to_ T j1 j2 t1 t2 : Addr} {f : Bool} {oT : Obj} {k1 k2 : Nat} {xs ys : Array Value} {Q : Option Value → Shared → Prop} (calm : A.handled = none) (D : ZipApart zp ti to_ j1 j2 t1 t2)
    (hz : IsZipHeld s.heap zp ti to_ T f) (hT : s.heap.get? T = some oT) (hp : IsPair s.heap ti (.ref j1) (.ref j2))
    (h1 : s.heap.IsTupleIter j1 t1 k1) (h2 : s.heap.IsTupleIter j2 t2 k2) (ht1 : s.heap.IsTuple t1 xs) (ht2 : s.heap.IsTuple t2 ys) (last : xs[k1]? = none ∨ ys[k2]? = none)
    (stop : ∀ h', (∀ c o, c ≠ zp → c ≠ j1 → c ≠ j2 → s.heap.get? c = some o → h'.get? c = some o) → Q none { s with heap := h' }) : wpAny (model prog w) A (pyNext (.ref zp)) Q E s := by
  have isZ : s.TypeIs (.ref zp) "zip" := ⟨_, hz, rfl⟩
  unfold pyNext
  refine wpAny_bind (wpAny_attempt (wpAny_callSpecial?_slot (name := Str.ofString "__next__") isZ F.slot_zip_next
    (wpAny_call_entry F.slot_zip_next isZ F.entry_zip_next (end_held calm D hz hT hp h1 h2 ht1 ht2 last fun h' e hk ⟨o, ho, hc⟩ => ?_) (F.args_zip_next_1 _))))
  exact wpAny_bind (wpAny_isInstance (T := "StopIteration") (b := true) ⟨o, ho, hc⟩ isSubtype_stop (wpAny_pure (stop _ hk)))
/-- where a zip of two tuples stands behind k turns, while a dict at d is filled -/
def ZSt (zp ti to_ j1 j2 t1 t2 d : Addr) (xs ys : Array Value) (k : Nat) (h : Heap) : Prop :=
  IsPair h ti (.ref j1) (.ref j2) ∧ h.IsTupleIter j1 t1 k ∧ h.IsTupleIter j2 t2 k ∧ h.IsTuple t1 xs ∧ h.IsTuple t2 ys ∧
    ((IsZip h zp ti to_ .none ∧ ∃ a b, IsPair h to_ a b) ∨ ∃ T f oT, IsZipHeld h zp ti to_ T f ∧ h.get? T = some oT ∧ T ≠ zp ∧ T ≠ j1 ∧ T ≠ j2 ∧ T ≠ d)
theorem not4 {c a1 a2 a3 a4 : Addr} (h : c ∉ [a1, a2, a3, a4]) : c ≠ a1 ∧ c ≠ a2 ∧ c ≠ a3 ∧ c ≠ a4 := by
  simp only [List.mem_cons, List.not_mem_nil, or_false, not_or] at h; exact h
theorem zst_src {zp ti to_ j1 j2 t1 t2 d : Addr} (D : ZipApart zp ti to_ j1 j2 t1 t2) (calm : A.handled = none) {xs ys : Array Value} (off : d ≠ zp ∧ d ≠ ti ∧ d ≠ to_ ∧ d ≠ j1 ∧ d ≠ j2 ∧ d ≠ t1 ∧ d ≠ t2) :
    PairSrc prog w A zp d [zp, to_, j1, j2] (min xs.size ys.size) (fun i k v => xs[i]? = some k ∧ ys[i]? = some v) (ZSt zp ti to_ j1 j2 t1 t2 d xs ys) where
  off := fun hm => by
    obtain ⟨dz, _, dto, dj1, dj2, _⟩ := off
    rcases List.mem_cons.mp hm with e | hm
    · exact dz e
    rcases List.mem_cons.mp hm with e | hm
    · exact dto e
    rcases List.mem_cons.mp hm with e | hm
    · exact dj1 e
    exact dj2 (List.mem_singleton.mp hm)
  frame := fun i ha hb st hk => by
    obtain ⟨dz, dti, dto, dj1, dj2, dt1, dt2⟩ := off
    obtain ⟨hp, h1, h2, ht1, ht2, hz⟩ := st
    refine ⟨hk _ _ dti.symm hp, h1.at fun o e => hk _ o dj1.symm e, h2.at fun o e => hk _ o dj2.symm e, ht1.at fun o e => hk _ o dt1.symm e, ht2.at fun o e => hk _ o dt2.symm e, ?_⟩
    rcases hz with ⟨hz, a, b, hto⟩ | ⟨T, f, oT, hz, hT, n1, n2, n3, n4⟩
    · exact .inl ⟨hk _ _ dz.symm hz, a, b, hk _ _ dto.symm hto⟩
    · exact .inr ⟨T, f, oT, hk _ _ dz.symm hz, hk _ _ n4 hT, n1, n2, n3, n4⟩
  item := fun i st Q1 E1 hi zs under fin => by
    obtain ⟨hp, h1, h2, ht1, ht2, hz⟩ := zs
    have gx := Array.getElem?_eq_getElem (xs := xs) (i := i) (Nat.lt_of_lt_of_le hi (Nat.min_le_left ..))
    have gy := Array.getElem?_eq_getElem (xs := ys) (i := i) (Nat.lt_of_lt_of_le hi (Nat.min_le_right ..))
    have new : ∀ {c o}, st.heap.get? c = some o → st.heap.objs.size ≠ c := fun e => Nat.ne_of_gt (Heap.lt_size e)
    have m1 : st.heap.objs.size ≠ j1 := let ⟨_, e, _⟩ := h1; new e
    have m2 : st.heap.objs.size ≠ j2 := let ⟨_, e, _⟩ := h2; new e
    rcases hz with ⟨hz, a, b, hto⟩ | ⟨T, f, oT, hz, hT, n1, n2, n3, n4⟩
    · refine RZ.pyNext_zipT_item D hz hp hto h1 h2 ht1 ht2 gx gy fun h' a1 a2 a3 a4 a5 a6 hk => ?_
      refine fin st.heap.objs.size _ _ h' st.toks ⟨gx, gy⟩ (.inl ⟨_, a5, rfl, _, rfl⟩) ⟨hk _ _ D.TIz D.TITO D.TIi1 D.TIi2 hp, a3, a4, ht1.at fun o e => hk _ o D.l1z D.l1TO D.l1i1 D.l1i2 e, ht2.at fun o e => hk _ o D.l2z D.l2TO D.l2i1 D.l2i2 e, .inr ⟨st.heap.objs.size, false, _, a1, a5, new hz, m1, m2, Nat.ne_of_gt under⟩⟩ fun c o nc e => ?_
      obtain ⟨c1, c2, c3, c4⟩ := not4 nc
      exact hk c o c1 c2 c3 c4 e
    · refine pyNext_held D hz hT hp h1 h2 ht1 ht2 gx gy fun h' a1 a3 a4 a5 a6 hk => ?_
      refine fin st.heap.objs.size _ _ h' st.toks ⟨gx, gy⟩ (.inl ⟨_, a5, rfl, _, rfl⟩) ⟨hk _ _ D.TIz D.TIi1 D.TIi2 hp, a3, a4, ht1.at fun o e => hk _ o D.l1z D.l1i1 D.l1i2 e, ht2.at fun o e => hk _ o D.l2z D.l2i1 D.l2i2 e, .inr ⟨T, true, oT, a1, hk _ _ n1 n2 n3 hT, n1, n2, n3, n4⟩⟩ fun c o nc e => ?_
      obtain ⟨c1, _, c3, c4⟩ := not4 nc
      exact hk c o c1 c3 c4 e
  done := fun st Q1 E1 zs fin => by
    obtain ⟨hp, h1, h2, ht1, ht2, hz⟩ := zs
    have last : xs[min xs.size ys.size]? = none ∨ ys[min xs.size ys.size]? = none := by
      rcases Nat.le_total xs.size ys.size with h | h
      · left; rw [Nat.min_eq_left h]; exact Array.getElem?_eq_none (Nat.le_refl _)
      · right; rw [Nat.min_eq_right h]; exact Array.getElem?_eq_none (Nat.le_refl _)
    rcases hz with ⟨hz, a, b, hto⟩ | ⟨T, f, oT, hz, hT, n1, n2, n3, n4⟩
    · refine RZ.pyNext_zipT_end calm D hz hp hto h1 h2 ht1 ht2 last fun h' hk => fin h' st.toks fun c o nc e => ?_
      obtain ⟨c1, c2, c3, c4⟩ := not4 nc
      exact hk c o c1 c2 c3 c4 e
    · refine pyNext_end_held calm D hz hT hp h1 h2 ht1 ht2 last fun h' hk => fin h' st.toks fun c o nc e => ?_
      obtain ⟨c1, _, c3, c4⟩ := not4 nc
      exact hk c o c1 c3 c4 e
theorem zip_arg (zp ti to_ j1 j2 t1 t2 : Addr) (D : ZipApart zp ti to_ j1 j2 t1 t2) (xs ys : Array Value) :
    PairArg prog w "zip" zp [zp, ti, to_, j1, j2, t1, t2] [zp, to_, j1, j2] (min xs.size ys.size) (fun i k v => xs[i]? = some k ∧ ys[i]? = some v)
      (fun h => IsZip h zp ti to_ .none ∧ IsPair h ti (.ref j1) (.ref j2) ∧ (∃ a b, IsPair h to_ a b) ∧ h.IsTupleIter j1 t1 0 ∧ h.IsTupleIter j2 t2 0 ∧ h.IsTuple t1 xs ∧ h.IsTuple t2 ys) where
  type := fun _ all => ⟨_, all.1, rfl⟩
  notDict := by decide
  keep := fun ha hb ⟨hz, hp, ⟨a, b, hto⟩, h1, h2, ht1, ht2⟩ hk =>
    ⟨hk _ _ hz, hk _ _ hp, ⟨a, b, hk _ _ hto⟩, h1.at fun o e => hk _ o e, h2.at fun o e => hk _ o e, ht1.at fun o e => hk _ o e, ht2.at fun o e => hk _ o e⟩
  there := fun h all b hb => by
    obtain ⟨hz, hp, ⟨a, c, hto⟩, ⟨o1, h1, _⟩, ⟨o2, h2, _⟩, ⟨o3, ht1, _⟩, ⟨o4, ht2, _⟩⟩ := all
    simp only [List.mem_cons, List.not_mem_nil, or_false] at hb
    obtain e | e | e | e | e | e | e := hb <;> subst e
    · exact ⟨_, hz⟩
    · exact ⟨_, hp⟩
    · exact ⟨_, hto⟩
    · exact ⟨_, h1⟩
    · exact ⟨_, h2⟩
    · exact ⟨_, ht1⟩
    · exact ⟨_, ht2⟩
  sub := fun b hb => by
    simp only [List.mem_cons, List.not_mem_nil, or_false] at hb ⊢
    obtain e | e | e | e := hb <;> subst e <;> simp
  noKeys := fun _ _ _ _ calm all h => getAttrOr_miss_zip all.1 rfl rfl rfl zip_no_keys (by decide +kernel) calm h
  iter := fun A s d Q E calm all under off h => by
    obtain ⟨hz, hp, hto, h1, h2, ht1, ht2⟩ := all
    simp only [List.mem_cons, List.not_mem_nil, or_false, not_or] at off
    exact wpAny_pyIter_zip hz (h zp _ _ s.heap s.toks (zst_src D calm off) ⟨hp, h1, h2, ht1, ht2, .inl ⟨hz, hto⟩⟩ (fun _ _ e => e) fun b hb => .inl hb)
/-- dict(zip(t, u)) -/
theorem dict_zip {κ : Type} [DecidableEq κ] {knd : PySem.KeyKind prog w κ} {t1 t2 : Addr} {xs ys : Array Value} {kvs : List (κ × Value)} {Q : Value → Shared → Prop} (calm : A.handled = none) {zp ti to_ j1 j2 : Addr} (D : ZipApart zp ti to_ j1 j2 t1 t2)
    (all : IsZip s.heap zp ti to_ .none ∧ IsPair s.heap ti (.ref j1) (.ref j2) ∧ (∃ a b, IsPair s.heap to_ a b) ∧ s.heap.IsTupleIter j1 t1 0 ∧ s.heap.IsTupleIter j2 t2 0 ∧ s.heap.IsTuple t1 xs ∧ s.heap.IsTuple t2 ys)
    (keys : PairsHave knd (min xs.size ys.size) (fun i k v => xs[i]? = some k ∧ ys[i]? = some v) kvs) (few : min xs.size ys.size ≤ sizeLine)
    (fin : ∀ h' tk, h'.DictOf knd s.heap.objs.size (merged [] kvs) → (∀ b o, b ∉ [zp, to_, j1, j2] → s.heap.get? b = some o → h'.get? b = some o) → Q (.ref s.heap.objs.size) { s with heap := h', toks := tk }) :
    wpAny (model prog w) A (call (.type "dict") [.ref zp]) Q E s :=
  call_dict_pairs (zip_arg zp ti to_ j1 j2 t1 t2 D xs ys) calm all keys few fin
end
end PLz
namespace PL
open PySem PySem.Spec L2 PyProof.Rows
/-! ### an entry of the abstract heap told otherwise -/
section
variable {X : Cx} {pins : List (Addr × Obj)} {σ : L2.St} {H : Hp} {s : Shared} {d : Addr} {u v : HO}
theorem swap_inv (I : Inv X pins σ H s) (hd : H d = some u) (tup : ∀ xs, u ≠ .tup xs) (tbl : ∀ ps, u ≠ .tbl ps) (own : ∀ b, u ≠ .own b) (fr : ∀ o w, X.H_0 d ≠ some (.frz o w)) (ok : ObjOk X.prog X.w (upd H d v) s.heap d v) : Inv X pins σ (upd H d v) s := by
  have off : ∀ {b : Addr}, H b = none → b ≠ d := fun e q => by rw [q, hd] at e; cases e
  have same : ∀ {b : Addr}, H b = none → upd H d v b = none := fun e => by rw [upd_ne (off e)]; exact e
  refine ⟨I.ok, I.os, I.bare, ⟨I.base.keep, I.base.slot, fun b o e n hx => same (I.base.free b o e n hx), I.base.there, fun b xs e => ?_, fun b o w e => ?_, fun b ps e => ?_⟩, I.loc, I.cell, same I.free, fun x c e => same (I.freeC x c e), fun p hp => ?_, fun a o e => ?_, I.len⟩
  · have e1 := I.base.tups b xs e
    have n : b ≠ d := fun q => by rw [q, hd] at e1; cases e1; exact tup _ rfl
    rw [upd_ne n]; exact e1
  · have n : b ≠ d := fun q => by rw [q] at e; exact fr _ _ e
    rw [upd_ne n]; exact I.base.frzs b o w e
  · obtain ⟨more, e1⟩ := I.base.tbls b ps e
    have n : b ≠ d := fun q => by rw [q, hd] at e1; cases e1; exact tbl _ rfl
    exact ⟨more, by rw [upd_ne n]; exact e1⟩
  · obtain ⟨h1, h2, h3⟩ := I.pin p hp
    exact ⟨h1, same h2, h3⟩
  · by_cases q : a = d
    · subst q
      rw [upd_same] at e; cases e
      exact ok
    · rw [upd_ne q] at e
      refine (I.hok a o e).stay (fun b w _ z => z) (fun b z => ?_) fun b xs z => ?_
      · have n : b ≠ d := fun q => by rw [q, hd] at z; cases z; exact own _ rfl
        rw [upd_ne n]; exact z
      · have n : b ≠ d := fun q => by rw [q, hd] at z; cases z; exact tup _ rfl
        rw [upd_ne n]; exact z
/-- a dict held still while e is found -/
theorem pe_still {e : Expr} {t : TE} (h : PE X e t) : PE X e (fun σ H Q => ∃ d kvs, H d = some (.dK kvs) ∧ ∀ o, t σ (upd H d (.frz o (.dK kvs))) fun x H' => ∃ o' kvs', H' d = some (.frz o' (.dK kvs')) ∧ Q x (upd H' d (.dK kvs'))) := by
  refine ⟨fun pins s σ H Q I want => ?_⟩
  obtain ⟨d, kvs, hd, want⟩ := want
  have ok := I.hok d _ hd
  obtain ⟨few, off, vs, rel, dd⟩ := (show ObjOk X.prog X.w H s.heap d (.dK kvs) from ok)
  obtain ⟨ob, es, ep, e1, e2⟩ := id dd
  have fr : ∀ o w, X.H_0 d ≠ some (.frz o w) := fun o w z => by
    have := I.base.frzs d o w z
    rw [hd] at this; cases this
  have I1 := swap_inv (v := .frz ob (.dK kvs)) I hd (fun _ z => by cases z) (fun _ z => by cases z) (fun _ z => by cases z) fr ⟨e1, few, off, vs, rel, dd⟩
  refine thn (h.run pins s σ _ _ I1 (want ob)) fun r s1 ⟨x, H1, I2, rx, o', kvs', h1, q⟩ => ?_
  obtain ⟨_, ok1⟩ := (show ObjOk X.prog X.w H1 s1.heap d (.frz o' (.dK kvs')) from I2.hok d _ h1)
  exact ⟨x, _, swap_inv (v := .dK kvs') I2 h1 (fun _ z => by cases z) (fun _ z => by cases z) (fun _ z => by cases z) fr ok1, rx, q⟩
end
/-! ### keys, tables -/
def kP : Key → PV
  | .inl i => .int i
  | .inr x => .str x
theorem kP_rep {K : Kf} {H : Hp} : ∀ k : Key, Rep K H (kP k) (kV k)
  | .inl i => .int i
  | .inr x => .str x
theorem kP_inv {K : Kf} {H : Hp} {k : Key} {v : V} (h : Rep K H (kP k) v) : v = kV k := by
  cases k with
  | inl i => cases h; rfl
  | inr x => cases h; rfl
def valP (kvs : List (Key × PV)) (k : Key) : Option PV := (kvs.find? fun kv => decide (kv.1 = k)).map (·.2)
def putP (kvs : List (Key × PV)) (k : Key) (v : PV) : List (Key × PV) :=
  if (kvs.any fun kv => decide (kv.1 = k)) = true then kvs.map (fun kv => if kv.1 = k then (kv.1, v) else kv) else kvs ++ [(k, v)]
def mergeP (kvs more : List (Key × PV)) : List (Key × PV) := more.foldl (fun acc kv => putP acc kv.1 kv.2) kvs
section
variable {K : Kf} {H : Hp}
theorem RepKV.len {ps : List (Key × PV)} {vs : List (Key × V)} (h : RepKV K H ps vs) : ps.length = vs.length := by
  induction h with
  | nil => rfl
  | cons _ _ ih => exact congrArg (· + 1) ih
theorem RepKV.any {ps : List (Key × PV)} {vs : List (Key × V)} (h : RepKV K H ps vs) (k : Key) : (ps.any fun kv => decide (kv.1 = k)) = vs.any fun kv => decide (kv.1 = k) := by
  induction h with
  | nil => rfl
  | cons _ _ ih => rw [List.any_cons, List.any_cons, ih]
theorem RepKV.val {ps : List (Key × PV)} {vs : List (Key × V)} (h : RepKV K H ps vs) (k : Key) : (valP ps k = none ∧ valV vs k = none) ∨ ∃ p v, valP ps k = some p ∧ valV vs k = some v ∧ Rep K H p v := by
  induction h with
  | nil => exact .inl ⟨rfl, rfl⟩
  | @cons j p v ps vs r _ ih =>
    by_cases e : j = k
    · exact .inr ⟨p, v, by simp [valP, e], by simp [valV, e], r⟩
    · have e1 : valP ((j, p) :: ps) k = valP ps k := by simp [valP, List.find?_cons, e]
      have e2 : valV ((j, v) :: vs) k = valV vs k := by simp [valV, List.find?_cons, e]
      rw [e1, e2]; exact ih
theorem RepKV.snoc {ps : List (Key × PV)} {vs : List (Key × V)} (h : RepKV K H ps vs) {k : Key} {p : PV} {v : V} (r : Rep K H p v) : RepKV K H (ps ++ [(k, p)]) (vs ++ [(k, v)]) := by
  induction h with
  | nil => exact .cons r .nil
  | cons a _ ih => exact .cons a ih
theorem RepKV.repl {ps : List (Key × PV)} {vs : List (Key × V)} (h : RepKV K H ps vs) (k : Key) {p : PV} {v : V} (r : Rep K H p v) : RepKV K H (ps.map fun kv => if kv.1 = k then (kv.1, p) else kv) (vs.map fun kv => if kv.1 = k then (kv.1, v) else kv) := by
  induction h with
  | nil => exact .nil
  | @cons j p' v' ps vs a _ ih =>
    rw [List.map_cons, List.map_cons]
    by_cases e : j = k
    · simp only [if_pos e]; exact .cons r ih
    · simp only [if_neg e]; exact .cons a ih
theorem RepKV.put {ps : List (Key × PV)} {vs : List (Key × V)} (h : RepKV K H ps vs) (k : Key) {p : PV} {v : V} (r : Rep K H p v) : RepKV K H (putP ps k p) (putK vs k v) := by
  have any := h.any k
  unfold putP putK
  rw [← any]
  split
  · exact h.repl k r
  · exact h.snoc r
theorem RepKV.merge {more : List (Key × PV)} {mv : List (Key × V)} (hm : RepKV K H more mv) : ∀ {ps : List (Key × PV)} {vs : List (Key × V)}, RepKV K H ps vs → RepKV K H (mergeP ps more) (mergeK vs mv) := by
  induction hm with
  | nil => intro ps vs h; exact h
  | @cons k p v _ _ r _ ih => intro ps vs h; exact ih (h.put k r)
theorem RepKV.zip {ks : List Key} : ∀ {ps : List PV} {vs : List V}, Reps K H ps vs → RepKV K H (ks.zip ps) (ks.zip vs) := by
  induction ks with
  | nil => intro ps vs _; exact .nil
  | cons k ks ih =>
    intro ps vs h
    cases h with
    | nil => exact .nil
    | cons r t => exact .cons r (ih t)
end
theorem putP_new {kvs : List (Key × PV)} {k : Key} (v : PV) (h : k ∉ kvs.map (·.1)) : putP kvs k v = kvs ++ [(k, v)] := by
  unfold putP
  rw [if_neg]
  intro h2
  obtain ⟨kv, h3, h4⟩ := List.any_eq_true.mp h2
  exact h (List.mem_map.mpr ⟨kv, h3, of_decide_eq_true h4⟩)
theorem mergeP_new : ∀ {more kvs : List (Key × PV)}, ((kvs ++ more).map (·.1)).Nodup → mergeP kvs more = kvs ++ more
  | [], kvs, _ => by show kvs = _; rw [List.append_nil]
  | (k, v) :: r, kvs, h => by
    have h1 : k ∉ kvs.map (·.1) := fun hk => by
      rw [List.map_append] at h
      exact (List.nodup_append.mp h).2.2 _ hk _ (by simp) rfl
    show mergeP (putP kvs k v) r = _
    rw [putP_new v h1, mergeP_new (by rw [List.append_assoc]; exact h), List.append_assoc]; rfl
end PL

set_option Elab.async false
set_option linter.all false
set_option maxRecDepth 100000
set_option maxHeartbeats 2000000
/-! PL14: dicts with whole numbers and texts as keys, in the data layer. -/
namespace PL
open PySem PySem.Spec L2
section
variable {X : Cx} {H0 : Hp} {pos : Pos} {K : Kf}
/-- a dict that is read -/
def rdD (M : PHp) (a : Addr) (kvs : List (Key × PV)) : Prop := M a = some (.dK kvs) ∨ ∃ o vs, M a = some (.rK o vs kvs)
theorem rdD.to {H : Hp} {M : PHp} {a : Addr} {kvs : List (Key × PV)} (h : rdD M a kvs) (m : RelM K H M) : ∃ vs, Rd H a (.dK vs) ∧ RepKV K H kvs vs := by
  rcases h with h | ⟨o, vs, h⟩
  · obtain ⟨vs, e, r⟩ := m a _ h
    exact ⟨vs, .inl e, r⟩
  · obtain ⟨e, r⟩ := m a _ h
    exact ⟨vs, .inr ⟨o, e⟩, r⟩
theorem new_dK {H : Hp} {M : PHp} {p : Addr} {l : List (Key × PV)} {vs : List (Key × V)} {Q : VK} {Qp : PVK} (m : RelM K H M) (hp : H p = none) (r : RepKV K H l vs)
    (u : ∀ p, M p = none → Qp (.ref p) (updM M p (.dK l))) (k : Kont K H Q Qp) : Q (.ref p) (upd H p (.dK vs)) := by
  have t : Tk K H (upd H p (.dK vs)) := .new hp
  exact k _ _ _ _ t (m.put (m := .dK l) t ⟨vs, upd_same, r.mono t⟩) (.ref p) (u p (m.fresh hp))
theorem Tk_dK {H : Hp} {M : PHp} {a : Addr} {l l' : List (Key × PV)} {vs vs' : List (Key × V)} (m : RelM K H M) (e : H a = some (.dK vs)) (r : RepKV K H l' vs') : Tk K H (upd H a (.dK vs')) ∧ RelM K (upd H a (.dK vs')) (updM M a (.dK l')) := by
  have t : Tk K H (upd H a (.dK vs')) := .dK e
  exact ⟨t, m.put (m := .dK l') t ⟨vs', upd_same, r.mono t⟩⟩
/-! {} -/
@[reducible] def tDNew : TEp := fun _ M Q => ∀ p, M p = none → Q (.ref p) (updM M p (.dK []))
theorem pdnew : PEp X H0 (.Dict [] [] pos) tDNew := peW pe_dnewK fun σ H Q ⟨σp, M, Qp, t, s, m, u, k⟩ p hp => new_dK m hp .nil u k
/-! d[k] -/
variable {o i e f value : Expr} {td ti te tv tx : TEp} {ta : TAp}
@[reducible] def tDGet (td ti : TEp) : TEp := fun σ M Q => td σ M fun x M1 => ti σ M1 fun y M2 => match x with | .ref a => ∃ kvs k p, rdD M2 a kvs ∧ y = kP k ∧ valP kvs k = some p ∧ Q p M2 | _ => False
theorem pdget (hu : X.A.units + 1 < cLine) (ho : PEp X H0 o td) (hi : PEp X H0 i ti) (hs : NoSl i := by exact fun _ _ => rfl) : PEp X H0 (.Subscript o i pos) (tDGet td ti) :=
  peW (pe_dget hu ho hi hs) fun σ H Q ⟨σp, M, Qp, t, s, m, u, k⟩ => ⟨σp, M, _, t, s, m, u, fun x H1 px M1 t1 m1 rx u1 => ⟨σp, M1, _, t.trans t1, s.mono t1, m1, u1, fun y H2 py M2 t2 m2 ry u2 => by
    cases rx with
    | ref a =>
      obtain ⟨kvs, kk, p, hd, rfl, hv, q⟩ := u2
      obtain ⟨vs, e1, r⟩ := hd.to m2
      rcases r.val kk with ⟨n1, _⟩ | ⟨p', v, n1, n2, rv⟩
      · rw [n1] at hv; cases hv
      · rw [n1] at hv; cases hv
        exact ⟨a, v, rfl, .inl ⟨vs, kk, e1, kP_inv ry, n2.symm⟩, k _ _ _ _ (t1.trans t2) m2 rv q⟩
    | _ => exact u2.elim⟩⟩
/-! d.get(k, x) -/
@[reducible] def tDGet2 (td ti tx : TEp) : TEp := fun σ M Q => td σ M fun x M1 => match x with
  | .ref a => (∃ kvs, rdD M1 a kvs) ∧ ti σ M1 fun y M2 => tx σ M2 fun z M3 => ∃ kvs k, rdD M3 a kvs ∧ y = kP k ∧ Q ((valP kvs k).getD z) M3
  | _ => False
theorem pdget2 {apos cpos : Pos} (hu : X.A.units + 1 < cLine) (ho : PEp X H0 o td) (he : PEp X H0 e te) (hf : PEp X H0 f tx) (m : M2 X o "get" apos e f cpos := by exact ⟨rfl, rfl, rfl, rfl⟩) : PEp X H0 (.Call (.Attribute o "get" apos) [e, f] [] cpos) (tDGet2 td te tx) :=
  peW (pe_dget2 hu ho he hf m) fun σ H Q ⟨σp, M, Qp, t, s, m, u, k⟩ => ⟨σp, M, _, t, s, m, u, fun x H1 px M1 t1 m1 rx u1 => by
    cases rx with
    | ref a =>
      obtain ⟨⟨kv0, hd0⟩, u1⟩ := u1
      obtain ⟨vs0, e0, _⟩ := hd0.to m1
      refine ⟨a, rfl, .inl ⟨vs0, e0⟩, σp, M1, _, t.trans t1, s.mono t1, m1, u1, fun y H2 py M2 t2 m2 ry u2 => ⟨σp, M2, _, (t.trans t1).trans t2, (s.mono t1).mono t2, m2, u2, fun z H3 pz M3 t3 m3 rz u3 => ?_⟩⟩
      obtain ⟨kvs, kk, hd, rfl, q⟩ := u3
      obtain ⟨vs, e1, r⟩ := hd.to m3
      refine ⟨valV vs kk, .inl ⟨vs, kk, e1, kP_inv ry, rfl⟩, ?_⟩
      rcases r.val kk with ⟨n1, n2⟩ | ⟨p', v, n1, n2, rv⟩
      · rw [n1] at q; rw [n2]
        exact k _ _ _ _ ((t1.trans t2).trans t3) m3 rz q
      · rw [n1] at q; rw [n2]
        exact k _ _ _ _ ((t1.trans t2).trans t3) m3 rv q
    | _ => exact u1.elim⟩
/-! d[k] = v -/
@[reducible] def sDPut (td ti tv : TEp) : TSp := fun D σ M => tv σ M fun v M1 => td σ M1 fun x M2 => ti σ M2 fun y M3 => match x with
  | .ref a => ∃ kvs k, M3 a = some (.dK kvs) ∧ y = kP k ∧ kvs.length < sizeLine ∧ D.nx σ (updM M3 a (.dK (putP kvs k v)))
  | _ => False
theorem psdput {pos' : Pos} (hu : X.A.units + 1 < cLine) (ho : PEp X H0 o td) (hi : PEp X H0 i ti) (hv : PEp X H0 value tv) (hs : swapsWith value (some (.Subscript o i pos')) pos.line X.env = pure false := by rfl) :
    PSp' X H0 (.Assign [.Subscript o i pos'] value pos) (sDPut td ti tv) :=
  psW (ps_dput hu ho hi hv hs) fun D σ H ⟨σp, M, Dp, t, s, m, u, k⟩ => ⟨σp, M, _, t, s, m, u, fun v H1 pv M1 t1 m1 rv u1 => ⟨σp, M1, _, t.trans t1, s.mono t1, m1, u1, fun x H2 px M2 t2 m2 rx u2 => ⟨σp, M2, _, (t.trans t1).trans t2, (s.mono t1).mono t2, m2, u2, fun y H3 py M3 t3 m3 ry u3 => by
    cases rx with
    | ref a =>
      obtain ⟨kvs, kk, hd, rfl, few, q⟩ := u3
      obtain ⟨vs, e1, r⟩ := m3 _ _ hd
      obtain ⟨t4, m4⟩ := Tk_dK (l := kvs) m3 e1 (r.put kk ((rv.mono t2).mono t3))
      exact ⟨a, _, rfl, .inl ⟨vs, kk, e1, kP_inv ry, by rw [← r.len]; exact few, rfl⟩, k.nx _ _ _ _ (((t1.trans t2).trans t3).trans t4) ((((s.mono t1).mono t2).mono t3).mono t4) m4 q⟩
    | _ => exact u3.elim⟩⟩⟩
/-! list(d) -/
def listDP : RCp := fun xs M Q => match xs with
  | [.ref a] => ∃ kvs, M a = some (.dK kvs) ∧ ∀ p, M p = none → Q (.ref p) (updM M p (.lst (kvs.map fun kv => kP kv.1)))
  | _ => False
theorem RepKV.keys {H : Hp} {kvs : List (Key × PV)} {vs : List (Key × V)} (h : RepKV K H kvs vs) : Reps K H (kvs.map fun kv => kP kv.1) (vs.map fun kv => kV kv.1) := by
  induction h with
  | nil => exact .nil
  | cons _ _ ih => exact .cons (kP_rep _) ih
theorem cListD (hc : X.calm = true) : CallP X (.type "list") listDP := by
  refine ⟨_, call_list_dK hc, fun xs H ps M Q Qp rs m u k => ?_⟩
  cases rs with
  | nil => exact u.elim
  | cons r rr => cases rr with
    | cons _ _ => cases r <;> exact u.elim
    | nil => cases r with
      | ref a =>
        obtain ⟨kvs, hd, q⟩ := u
        obtain ⟨vs, e, rk⟩ := m _ _ hd
        exact ⟨a, vs, rfl, e, fun p hp => new_lst m hp rk.keys q k⟩
      | _ => exact u.elim
/-! a dict that stands still -/
@[reducible] def tStill (te : TEp) : TEp := fun σ M Q => ∃ d kvs, M d = some (.dK kvs) ∧ ∀ o vs, te σ (updM M d (.rK o vs kvs)) fun x M1 => M1 d = some (.rK o vs kvs) ∧ Q x (updM M1 d (.dK kvs))
theorem no_tupF {H : Hp} {p : Addr} {o : Obj} {vs : List (Key × V)} (h : H p = some (.frz o (.dK vs))) : ∀ xs, ¬ Rd H p (.tup xs) := fun xs e => by
  rcases e with e | ⟨u, e⟩
  · rw [h] at e; cases e
  · rw [h] at e; cases e
theorem pstill (he : PEp X H0 e te) : PEp X H0 e (tStill te) :=
  peW (pe_still he) fun σ H Q ⟨σp, M, Qp, t, s, m, ⟨d, kvs, hd, u⟩, k⟩ => by
    obtain ⟨vs, e1, r⟩ := m _ _ hd
    refine ⟨d, vs, e1, fun ob => ?_⟩
    have t1 : Tk X.K H (upd H d (.frz ob (.dK vs))) := .dK e1
    have m1 : RelM X.K (upd H d (.frz ob (.dK vs))) (updM M d (.rK ob vs kvs)) := m.put (m := .rK ob vs kvs) t1 ⟨upd_same, r.mono t1⟩
    refine ⟨σp, _, _, t.trans t1, s.mono t1, m1, u ob vs, fun x H2 px M2 t2 m2 rx ⟨h2, q⟩ => ?_⟩
    obtain ⟨e2, r2⟩ := m2 _ _ h2
    have t3 : Tk X.K H2 (upd H2 d (.dK vs)) := .upd (no_tupF e2)
    exact ⟨ob, vs, e2, k _ _ _ _ ((t1.trans t2).trans t3) (m2.put (m := .dK kvs) t3 ⟨vs, upd_same, r2.mono t3⟩) (rx.mono t3) q⟩
theorem ps_still {st : Stmt} {t : TS} (h : PS X st t) : PS X st (fun D σ H => ∃ d kvs, H d = some (.dK kvs) ∧ ∀ o, t { nx := fun σ' H' => ∃ o' kvs', H' d = some (.frz o' (.dK kvs')) ∧ D.nx σ' (upd H' d (.dK kvs')), rt := fun _ _ => False } σ (upd H d (.frz o (.dK kvs)))) := by
  refine ⟨fun pins s σ H D I want => ?_⟩
  obtain ⟨d, kvs, hd, want⟩ := want
  have ok := I.hok d _ hd
  obtain ⟨few, off, vs, rel, dd⟩ := (show ObjOk X.prog X.w H s.heap d (.dK kvs) from ok)
  obtain ⟨ob, es, ep, e1, e2⟩ := id dd
  have fr : ∀ o w, X.H_0 d ≠ some (.frz o w) := fun o w z => by
    have := I.base.frzs d o w z
    rw [hd] at this; cases this
  have I1 := swap_inv (v := .frz ob (.dK kvs)) I hd (fun _ z => by cases z) (fun _ z => by cases z) (fun _ z => by cases z) fr ⟨e1, few, off, vs, rel, dd⟩
  refine thn (h.run pins s σ _ _ I1 (want ob)) fun f s1 sp => ?_
  cases f with
  | next =>
    obtain ⟨σ', H1, I2, o', kvs', h1, q⟩ := sp
    obtain ⟨_, ok1⟩ := (show ObjOk X.prog X.w H1 s1.heap d (.frz o' (.dK kvs')) from I2.hok d _ h1)
    exact ⟨σ', _, swap_inv (v := .dK kvs') I2 h1 (fun _ z => by cases z) (fun _ z => by cases z) (fun _ z => by cases z) fr ok1, q⟩
  | brk => obtain ⟨_, _, _, q⟩ := sp; exact q.elim
  | cont => obtain ⟨_, _, _, q⟩ := sp; exact q.elim
  | ret u => obtain ⟨_, _, _, _, _, q⟩ := sp; exact q.elim
@[reducible] def tStillS (ts : TSp) : TSp := fun D σ M => ∃ d kvs, M d = some (.dK kvs) ∧ ∀ o vs, ts { nx := fun σ' M' => M' d = some (.rK o vs kvs) ∧ D.nx σ' (updM M' d (.dK kvs)), rt := fun _ _ => False } σ (updM M d (.rK o vs kvs))
theorem psstill {st : Stmt} {ts : TSp} (h : PSp' X H0 st ts) : PSp' X H0 st (tStillS ts) :=
  psW (ps_still h) fun D σ H ⟨σp, M, Dp, t, s, m, ⟨d, kvs, hd, u⟩, k⟩ => by
    obtain ⟨vs, e1, r⟩ := m _ _ hd
    refine ⟨d, vs, e1, fun ob => ?_⟩
    have t1 : Tk X.K H (upd H d (.frz ob (.dK vs))) := .dK e1
    have m1 : RelM X.K (upd H d (.frz ob (.dK vs))) (updM M d (.rK ob vs kvs)) := m.put (m := .rK ob vs kvs) t1 ⟨upd_same, r.mono t1⟩
    refine ⟨σp, _, _, t.trans t1, s.mono t1, m1, u ob vs, ⟨fun σ2 H2 σp2 M2 t2 s2 m2 ⟨h2, q⟩ => ?_, fun _ _ _ _ _ _ _ q => q.elim, fun _ _ _ _ _ _ _ q => q.elim, fun _ _ _ _ _ _ _ q => q.elim⟩⟩
    obtain ⟨e2, r2⟩ := m2 _ _ h2
    have t3 : Tk X.K H2 (upd H2 d (.dK vs)) := .upd (no_tupF e2)
    exact ⟨ob, vs, e2, k.nx _ _ _ _ ((t1.trans t2).trans t3) (s2.mono t3) (m2.put (m := .dK kvs) t3 ⟨vs, upd_same, r2.mono t3⟩) q⟩
theorem u1 {n c : Nat} (h : n + 64 < c) : n + 1 < c := by omega
/-- over the keys of a dict that stands still -/
@[reducible] def iKeysP (td : TEp) : TIp := fun σ M R => td σ M fun x M1 => match x with | .ref a => ∃ o vs kvs, M1 a = some (.rK o vs kvs) ∧ R (kvs.map fun kv => kP kv.1) (fun M => M a = some (.rK o vs kvs)) M1 | _ => False
theorem RepKV.at {H : Hp} {kvs : List (Key × PV)} {vs : List (Key × V)} (h : RepKV K H kvs vs) : ∀ {i : Nat} {k : Key} {v : V}, vs[i]? = some (k, v) → ∃ p, kvs[i]? = some (k, p) := by
  induction h with
  | nil => intro i k v e; simp at e
  | @cons j p w ps ws _ _ ih =>
    intro i k v e
    cases i with
    | zero => simp at e; exact ⟨p, by rw [e.1]; rfl⟩
    | succ i => simp at e; obtain ⟨p, hp⟩ := ih e; exact ⟨p, by simpa using hp⟩
theorem pikeys {tg e : Expr} {td : TEp} (h : PEp X H0 e td) : PIp' X H0 tg e (iKeysP td) :=
  piW (pi_keys h) fun σ H R ⟨σp, M, Rp, t, s, m, u, k⟩ => ⟨σp, M, _, t, s, m, u, fun x H1 px M1 t1 m1 rx u1 => by
    cases rx with
    | ref a =>
      obtain ⟨o, vs, kvs, hd, q⟩ := u1
      obtain ⟨e1, r⟩ := m1 _ _ hd
      have len : (kvs.map fun kv => kP kv.1).length = vs.length := by rw [List.length_map]; exact r.len
      refine ⟨a, o, rfl, .inl ⟨vs, e1, k _ _ _ _ _ t1 m1 ⟨fun i H2 M2 t2 m2 hk hi => ?_, fun i H2 M2 x H3 t2 m2 hk hi y => ?_, fun H2 M2 t2 m2 hk => ?_⟩ q⟩⟩
      · obtain ⟨e2, _⟩ := m2 _ _ hk
        exact ⟨e2, by rw [← len]; exact hi⟩
      · obtain ⟨rfl, kk, v, e3, rfl⟩ := y
        obtain ⟨p, hp⟩ := r.at e3
        exact ⟨kP kk, by rw [List.getElem?_map, hp]; rfl, kP_rep _, Tk.refl _ _, fun _ h => h⟩
      · obtain ⟨e2, _⟩ := m2 _ _ hk
        exact ⟨e2, by rw [len]; exact Nat.le_refl _⟩
    | _ => exact u1.elim⟩
/-! dict(zip(t, u)) -/
def xDz (K : Kf) (t : TA) : TE := fun σ H Q => t σ H fun vs H1 => ∃ (a b : Addr) (ks : List Key) (ys : List V), vs = [.ref a, .ref b] ∧ SqT K H1 a (ks.map kV) ∧ SqT K H1 b ys ∧ ∀ p, H1 p = none → Q (.ref p) (upd H1 p (.dK (mergeK [] (ks.zip ys))))
theorem vals_get : ∀ {xs : List V} {us : List Value} {i : Nat} {x : V}, Vals xs us → xs[i]? = some x → ∃ u, us[i]? = some u ∧ RelV x u
  | _, _, _, _, .nil, e => by simp at e
  | _, _, 0, _, .cons r _, e => by simp at e; subst e; exact ⟨_, rfl, r⟩
  | _, _, i + 1, _, .cons _ t, e => by
    obtain ⟨u, h1, h2⟩ := vals_get (i := i) t (by simpa using e)
    exact ⟨u, by simpa using h1, h2⟩
theorem kv_zip : ∀ {ks : List Key} {ys : List V} {us : List Value}, Vals ys us → KV (ks.zip ys) (ks.zip us)
  | [], _, _, _ => .nil
  | _ :: _, _, _, .nil => .nil
  | k :: ks, _, _, .cons r t => .cons ⟨rfl, r⟩ (kv_zip (ks := ks) t)
open PyProof.Rows in
theorem pe_dictzip {e1 e2 : Expr} {p p2 pos2 : Pos} {t : TA} (hc : X.calm = true) (gd : Gl X "dict") (md : X.mg "dict" = none) (gz : Gl X "zip") (mz : X.mg "zip" = none) (ha : PA X [e1, e2] t)
    (s1 : starEach [e1, e2] X.env = (false, eval e1 X.env) :: starEach [e2] X.env := by rfl) (pl : (backTo pos2 (starEach [e2] X.env)).any (·.1) = false := by rfl)
    (s2 : starEach [.Call (.Name "zip" p2) [e1, e2] [] pos2] X.env = (false, eval (.Call (.Name "zip" p2) [e1, e2] [] pos2) X.env) :: starEach [] X.env := by rfl) :
    PE X (.Call (.Name "dict" p) [.Call (.Name "zip" p2) [e1, e2] [] pos2] [] pos) (xDz X.K t) := by
  refine ⟨fun pins s σ H Q I want => ?_⟩
  refine Call_ (ld_blt I gd md PyProof.Rows.boot_dict (PyProof.Rows.callWith_type1 (PyProof.Rows.args_cons (Call_ (ld_blt I gz mz PyProof.Rows.boot_zip (PyProof.Rows.callWith_type1 (thn (ha.run pos2 pins s σ H _ I want) fun us st ⟨vs, H1, I1, r1, a, b, ks, ys, ev, ta, tb, q⟩ => ?_) s1 pl))) s2) s2))
  subst ev
  obtain ⟨u1, u2, eu, ra, rb⟩ := vals2 r1
  subst eu
  cases ra
  cases rb
  obtain ⟨its, rv, p1, few1⟩ := I1.tuple ta
  obtain ⟨jts, rw', p2', few2⟩ := I1.tuple tb
  obtain ⟨o1, ho1, _⟩ := id p1
  obtain ⟨o2, ho2, _⟩ := id p2'
  refine RZ.call_zipT (show st.heap.IsTuple a its.toArray from p1) (show st.heap.IsTuple b jts.toArray from p2') fun h1 hz hp hto h1a h2a size keep => PyProof.Rows.args_nil ?_
  have klen : ks.length = its.length := by have := rv.length; rwa [List.length_map] at this
  refine PLz.dict_zip (s := { st with heap := h1 }) (knd := mixKind X.prog X.w) (xs := its.toArray) (ys := jts.toArray) (kvs := ks.zip jts) (I1.ok.hd hc) (PySem.W.ktu_apart st.heap.objs.size a b (Heap.lt_size ho1) (Heap.lt_size ho2))
    ⟨hz, hp, ⟨_, _, hto⟩, h1a, h2a, (show st.heap.IsTuple a its.toArray from p1).at fun o e => keep _ o e, (show st.heap.IsTuple b jts.toArray from p2').at fun o e => keep _ o e⟩ ⟨by rw [List.length_zip, klen, List.size_toArray, List.size_toArray], fun i key v ⟨x1, x2⟩ => ?_⟩ ?_ fun h2 tk dd stay => ?_
  · rw [List.getElem?_toArray] at x1 x2
    have hi := (List.getElem?_eq_some_iff.mp x1).1
    have hk : ks[i]? = some (ks[i]'(by omega)) := List.getElem?_eq_getElem _
    refine ⟨ks[i]'(by omega), List.getElem?_zip_eq_some.mpr ⟨hk, x2⟩, kV_is ?_⟩
    have : (ks.map kV)[i]? = some (kV (ks[i]'(by omega))) := by rw [List.getElem?_map, hk]; rfl
    obtain ⟨z, z1, z2⟩ := vals_get rv this
    rw [x1] at z1; cases z1; exact z2
  · have := rw'.length
    rw [List.size_toArray, List.size_toArray]; omega
  · have big := I1.big
    refine ⟨.ref h1.objs.size, _, I1.laid (t' := tk) (a := h1.objs.size) (o := .dK (mergeK [] (ks.zip ys))) (fun b2 o e => stay b2 o (fun hm => ?_) (keep b2 o e)) (by omega) ?_, rfl, q _ (I1.hok.fresh (by omega))⟩
    · have under := Heap.lt_size e
      obtain ⟨c1, c2, c3, c4⟩ : b2 ≠ st.heap.objs.size + 4 ∧ b2 ≠ st.heap.objs.size + 3 ∧ b2 ≠ st.heap.objs.size ∧ b2 ≠ st.heap.objs.size + 1 := ⟨Nat.ne_of_lt (Nat.lt_of_lt_of_le under (Nat.le_add_right _ _)), Nat.ne_of_lt (Nat.lt_of_lt_of_le under (Nat.le_add_right _ _)), Nat.ne_of_lt under, Nat.ne_of_lt (Nat.lt_of_lt_of_le under (Nat.le_add_right _ _))⟩
      simp only [List.mem_cons, List.not_mem_nil, or_false] at hm
      rcases hm with z | z | z | z
      · exact c1 z
      · exact c2 z
      · exact c3 z
      · exact c4 z
    · have lm := length_mergeK (ks.zip ys) []
      have lz : (ks.zip ys).length ≤ ys.length := by rw [List.length_zip]; exact Nat.min_le_right _ _
      exact dk_new (by rw [List.length_nil] at lm; omega) (by
        rw [beq_eq_false_iff_ne]
        have le : st.heap.objs.size ≤ h1.objs.size := by rw [size]; exact Nat.le_add_right _ _
        exact Nat.ne_of_gt (Nat.lt_of_lt_of_le big le)) ((kv_zip rw').merge .nil) dd
@[reducible] def tDz (ta : TAp) : TEp := fun σ M Q => ta σ M fun ps M1 => ∃ (ks : List Key) (ys : List PV), ps = [.tup (ks.map kP), .tup ys] ∧ ∀ p, M1 p = none → Q (.ref p) (updM M1 p (.dK (mergeP [] (ks.zip ys))))
theorem reps_keys {H : Hp} : ∀ {ks : List Key} {vs : List V}, Reps K H (ks.map kP) vs → vs = ks.map kV
  | [], _, .nil => rfl
  | k :: _, _, .cons r t => by rw [kP_inv r, reps_keys t]; rfl
theorem pdictzip {e1 e2 : Expr} {p p2 pos2 : Pos} (hc : X.calm = true) (gd : Gl X "dict") (md : X.mg "dict" = none) (gz : Gl X "zip") (mz : X.mg "zip" = none) (ha : PAp X H0 [e1, e2] ta)
    (s1 : starEach [e1, e2] X.env = (false, eval e1 X.env) :: starEach [e2] X.env := by rfl) (pl : (backTo pos2 (starEach [e2] X.env)).any (·.1) = false := by rfl)
    (s2 : starEach [.Call (.Name "zip" p2) [e1, e2] [] pos2] X.env = (false, eval (.Call (.Name "zip" p2) [e1, e2] [] pos2) X.env) :: starEach [] X.env := by rfl) :
    PEp X H0 (.Call (.Name "dict" p) [.Call (.Name "zip" p2) [e1, e2] [] pos2] [] pos) (tDz ta) :=
  peW (pe_dictzip hc gd md gz mz ha s1 pl s2) fun σ H Q ⟨σp, M, Qp, t, s, m, u, k⟩ => ⟨σp, M, _, t, s, m, u, fun vs H1 ps M1 t1 m1 rs u1 => by
    obtain ⟨ks, ys, rfl, q⟩ := u1
    cases rs with
    | cons r1 rr => cases rr with
      | cons r2 rr2 =>
        cases rr2
        cases r1 with
        | tup ha1 ra => cases r2 with
          | tup hb1 rb =>
            have := reps_keys ra
            subst this
            exact ⟨_, _, ks, _, rfl, ha1.t, hb1.t, fun p hp => new_dK m1 hp (RepKV.merge (.zip rb) .nil) q fun v H2 p M2 t2 => k v H2 p M2 (t1.trans t2)⟩⟩
end
end PL

set_option Elab.async false
set_option linter.all false
set_option maxRecDepth 100000
set_option maxHeartbeats 4000000
/-! PL15: what is plain data is equal exactly if it is the same. -/
namespace PL
open PySem L2
section
variable {K : Kf}
/-- numbers, texts, tuples of them -/
inductive Dat : Nat → PV → Prop
  | int {n} (i) : Dat (n + 1) (.int i)
  | str {n} (x) : Dat (n + 1) (.str x)
  | tup {n l} : (∀ x ∈ l, Dat n x) → Dat (n + 1) (.tup l)
theorem Dat.dp {M : PHp} : ∀ {n : Nat} {x : PV}, Dat n x → DpP K M x (toD x)
  | _, _, .int _ => .int _
  | _, _, .str _ => .str _
  | n + 1, .tup l, .tup h => by
    refine .tup ?_
    have : ∀ l : List PV, (∀ x ∈ l, Dat n x) → DpsP K M l (toDs l) := by
      intro l
      induction l with
      | nil => intro _; exact .nil
      | cons x r ih => intro h; exact .cons (Dat.dp (h x List.mem_cons_self)) (ih fun y hy => h y (List.mem_cons_of_mem _ hy))
    exact this l h
theorem Dat.dps {M : PHp} {n : Nat} : ∀ {l : List PV}, (∀ x ∈ l, Dat n x) → DpsP K M l (toDs l)
  | [], _ => .nil
  | x :: r, h => .cons (Dat.dp (h x List.mem_cons_self)) (Dat.dps fun y hy => h y (List.mem_cons_of_mem _ hy))
theorem plains {n : Nat} (go : ∀ x, Dat n x → (toD x).plain = true ∧ (toD x).depth ≤ n) : ∀ {l : List PV}, (∀ x ∈ l, Dat n x) → PyData.plainAll (toDs l) = true ∧ PyData.depthAll (toDs l) ≤ n
  | [], _ => ⟨rfl, Nat.zero_le _⟩
  | x :: r, h => by
    obtain ⟨a1, a2⟩ := go x (h x List.mem_cons_self)
    obtain ⟨b1, b2⟩ := plains go fun y hy => h y (List.mem_cons_of_mem _ hy)
    refine ⟨by show ((toD x).plain && PyData.plainAll (toDs r)) = true; rw [a1, b1]; rfl, ?_⟩
    show max (toD x).depth (PyData.depthAll (toDs r)) ≤ n
    exact Nat.max_le.mpr ⟨a2, b2⟩
theorem Dat.flat : ∀ {n : Nat} {x : PV}, Dat n x → (toD x).plain = true ∧ (toD x).depth ≤ n
  | n + 1, _, .int _ => ⟨rfl, by show 0 ≤ _; omega⟩
  | n + 1, _, .str _ => ⟨rfl, by show 0 ≤ _; omega⟩
  | n + 1, .tup l, .tup h => by
    obtain ⟨h1, h2⟩ := plains (fun x hx => Dat.flat hx) h
    exact ⟨h1, by show PyData.depthAll (toDs l) + 1 ≤ n + 1; omega⟩
theorem Dat.flats {n : Nat} {l : List PV} (h : ∀ x ∈ l, Dat n x) : (PyData.list (toDs l)).plain = true ∧ (PyData.list (toDs l)).depth ≤ n + 1 := by
  obtain ⟨h1, h2⟩ := plains (fun x hx => Dat.flat hx) h
  exact ⟨h1, by show PyData.depthAll (toDs l) + 1 ≤ n + 1; omega⟩
theorem beq_iff {α : Type} [DecidableEq α] (a b : α) : ((a == b) = true) ↔ a = b := by rw [beq_iff_eq]
theorem eqvs {n : Nat} (go : ∀ x y, Dat n x → (PyData.eqv (toD x) (toD y) = true ↔ x = y) ∨ ¬ ∃ m, Dat m y) : ∀ {l r : List PV}, (∀ x ∈ l, Dat n x) → (∀ x ∈ r, ∃ m, Dat m x) → (PyData.eqvAll (toDs l) (toDs r) = true ↔ l = r)
  | [], [], _, _ => ⟨fun _ => rfl, fun _ => rfl⟩
  | [], y :: r, _, _ => ⟨fun h => (by cases h), fun h => (by cases h)⟩
  | x :: l, [], _, _ => ⟨fun h => (by cases h), fun h => (by cases h)⟩
  | x :: l, y :: r, h1, h2 => by
    have a := (go x y (h1 x List.mem_cons_self)).resolve_right fun h => h (h2 y List.mem_cons_self)
    have b := eqvs go (l := l) (r := r) (fun z hz => h1 z (List.mem_cons_of_mem _ hz)) fun z hz => h2 z (List.mem_cons_of_mem _ hz)
    show ((PyData.eqv (toD x) (toD y) && PyData.eqvAll (toDs l) (toDs r)) = true) ↔ _
    rw [Bool.and_eq_true, a, b]
    exact ⟨fun ⟨e1, e2⟩ => by rw [e1, e2], fun e => by cases e; exact ⟨rfl, rfl⟩⟩
theorem Dat.eqv : ∀ {n m : Nat} {x y : PV}, Dat n x → Dat m y → (PyData.eqv (toD x) (toD y) = true ↔ x = y)
  | n + 1, m + 1, _, _, .int i, .int j => by
    show (i == j) = true ↔ _
    rw [beq_iff]; exact ⟨fun e => by rw [e], fun e => by cases e; rfl⟩
  | n + 1, m + 1, _, _, .int i, .str j => ⟨fun h => (by cases h), fun h => (by cases h)⟩
  | n + 1, m + 1, _, .tup r, .int i, .tup _ => ⟨fun h => (by cases h), fun h => (by cases h)⟩
  | n + 1, m + 1, _, _, .str i, .int j => ⟨fun h => (by cases h), fun h => (by cases h)⟩
  | n + 1, m + 1, _, _, .str i, .str j => by
    show (i == j) = true ↔ _
    rw [beq_iff_eq]; exact ⟨fun e => by rw [e], fun e => by cases e; rfl⟩
  | n + 1, m + 1, _, .tup r, .str i, .tup _ => ⟨fun h => (by cases h), fun h => (by cases h)⟩
  | n + 1, m + 1, .tup l, _, .tup _, .int i => ⟨fun h => (by cases h), fun h => (by cases h)⟩
  | n + 1, m + 1, .tup l, _, .tup _, .str i => ⟨fun h => (by cases h), fun h => (by cases h)⟩
  | n + 1, m + 1, .tup l, .tup r, .tup h1, .tup h2 => by
    show PyData.eqvAll (toDs l) (toDs r) = true ↔ _
    rw [eqvs (n := n) (fun x y hx => by
      by_cases q : ∃ m, Dat m y
      · obtain ⟨m, hm⟩ := q
        exact .inl (Dat.eqv hx hm)
      · exact .inr q) h1 fun x hx => ⟨m, h2 x hx⟩]
    exact ⟨fun e => by rw [e], fun e => by cases e; rfl⟩
theorem eqvAll_dat {n m : Nat} {l r : List PV} (h1 : ∀ x ∈ l, Dat n x) (h2 : ∀ x ∈ r, Dat m x) : PyData.eqvAll (toDs l) (toDs r) = true ↔ l = r :=
  eqvs (n := n) (fun x y hx => by
      by_cases q : ∃ m, Dat m y
      · obtain ⟨m, hm⟩ := q
        exact .inl (Dat.eqv hx hm)
      · exact .inr q) h1 fun x hx => ⟨m, h2 x hx⟩
/-- x == y of plain data: the answer is told by a truth value that holds exactly if they are the same -/
theorem eqD_dat {n m : Nat} {x y : PV} {M : PHp} {R : Bool → Prop} (hx : Dat n x) (hy : Dat m y) (hn : n ≤ 64) (hm : m ≤ 64) (q : ∀ b : Bool, (b = true ↔ x = y) → R b) : eqD K x y M R :=
  eqD_fl hx.dp hy.dp ⟨hx.flat.1, Nat.le_trans hx.flat.2 hn⟩ ⟨hy.flat.1, Nat.le_trans hy.flat.2 hm⟩ (q _ (hx.eqv hy))
theorem eqD_same {n : Nat} {x : PV} {M : PHp} {R : Bool → Prop} (hx : Dat n x) (hn : n ≤ 64) (q : R true) : eqD K x x M R :=
  eqD_dat hx hx hn hn fun b hb => by rw [hb.mpr rfl]; exact q
/-- of two lists with plain data -/
theorem eqD_lists {n m : Nat} {a b : Addr} {l r : List PV} {M : PHp} {R : Bool → Prop} (ha : rdL K M a l) (hb : rdL K M b r) (hx : ∀ x ∈ l, Dat n x) (hy : ∀ x ∈ r, Dat m x) (hn : n ≤ 60) (hm : m ≤ 60) (q : ∀ t : Bool, (t = true ↔ l = r) → R t) : eqD K (.ref a) (.ref b) M R :=
  eqD_fl (.lst ha (Dat.dps hx)) (.lst hb (Dat.dps hy)) ⟨(Dat.flats hx).1, Nat.le_trans (Dat.flats hx).2 (by omega)⟩ ⟨(Dat.flats hy).1, Nat.le_trans (Dat.flats hy).2 (by omega)⟩ (q _ (eqvAll_dat hx hy))
theorem eqD_lsame {n : Nat} {a b : Addr} {l : List PV} {M : PHp} {R : Bool → Prop} (ha : rdL K M a l) (hb : rdL K M b l) (hx : ∀ x ∈ l, Dat n x) (hn : n ≤ 60) (q : R true) : eqD K (.ref a) (.ref b) M R :=
  eqD_lists ha hb hx hx hn hn fun t ht => by rw [ht.mpr rfl]; exact q
theorem dat_ints {n : Nat} (ns : List Int) : ∀ x ∈ ns.map PV.int, Dat (n + 1) x := fun x hx => by
  obtain ⟨i, _, rfl⟩ := List.mem_map.mp hx; exact .int i
theorem dat_strs {n : Nat} (ns : List Str) : ∀ x ∈ ns.map PV.str, Dat (n + 1) x := fun x hx => by
  obtain ⟨i, _, rfl⟩ := List.mem_map.mp hx; exact .str i
end
end PL

set_option Elab.async false
set_option linter.all false
set_option maxRecDepth 100000
set_option maxHeartbeats 4000000
/-! PL16: a test with a word behind it. -/
namespace PL
open PySem L2
section
variable {X : Cx} {H0 : Hp} {ts us : TSp} {pos : Pos}
/-- if, with a word about what the test has told -/
@[reducible] def tIfC (c : TTp) (t u : TSp) : TSp := fun D σ M => ∃ Mid : Bool → PHp → Prop, c σ M (fun b M1 => ∃ M0, Sub M0 M1 ∧ Mid b M0) ∧ ∀ b M', Mid b M' → br b (t D σ M') (u D σ M')
theorem psifc {c : Expr} {a b : List Stmt} {tc : TTp} (hc : PTp X H0 c tc) (ha : PSsp X H0 a ts) (hb : PSsp X H0 b us) : PSp' X H0 (.If c a b pos) (tIfC tc ts us) :=
  psW (ps_if hc ha hb) fun D σ H ⟨σp, M, Dp, t, s, m, ⟨Mid, u, q⟩, k⟩ => ⟨σp, M, _, t, s, m, u, fun c H1 M1 t1 m1 ⟨M0, sm, z⟩ => br_imp (q c M0 z)
    (fun q => ⟨σp, M0, Dp, t.trans t1, s.mono t1, m1.sub sm, q, k.mono t1⟩) fun q => ⟨σp, M0, Dp, t.trans t1, s.mono t1, m1.sub sm, q, k.mono t1⟩⟩
/-- none, or a thing -/
theorem isn_opt {α : Type} {f : α → PV} (hf : ∀ x, f x ≠ .non) {o : Option α} {M : PHp} {Q : PVK} (h : Q (.bl o.isNone) M) : isNP (match o with | none => .non | some x => f x) .non M Q := by
  cases o with
  | none => exact h
  | some x =>
    have := hf x
    show isNP (f x) .non M Q
    unfold isNP
    cases e : f x with
    | non => exact absurd e this
    | _ => exact h
end
end PL

set_option Elab.async false
set_option linter.all false
set_option maxRecDepth 100000
set_option maxHeartbeats 4000000
/-! PL17: classes of the program's own: attributes, methods, properties, making, instances called. -/
namespace PL
open PySem PySem.Spec L2
section
variable {X : Cx} {H0 : Hp} {pos : Pos} {K : Kf}
/-- where the module's class of that name stands -/
def clsA (K : Kf) (x : Str) : Addr := match PySem.W.nsIn K mainGlobals x with
  | some (some (.ref C)) => C
  | _ => 0
theorem clsA_of {x : Str} {C : Addr} (h : PySem.W.nsIn K mainGlobals x = some (some (.ref C))) : clsA K x = C := by unfold clsA; rw [h]
abbrev FldOk (K : Kf) (C : Addr) (f : Str) : Prop := Cls K C ∧ NoAttr K C f
def putX (f : Str) (v : PV) : List (Str × PV) → List (Str × PV)
  | [] => [(f, v)]
  | (g, x) :: r => if g = f then (g, v) :: r else (g, x) :: putX f v r
theorem RepXD.lk {H : Hp} {fs : List (Str × PV)} {vs : List (Str × V)} (h : RepXD K H fs vs) (f : Str) : (fs.lookup f = none ∧ vs.lookup f = none) ∨ ∃ p v, fs.lookup f = some p ∧ vs.lookup f = some v ∧ Rep K H p v := by
  induction h with
  | nil => exact .inl ⟨rfl, rfl⟩
  | @cons k p v ps vs r _ ih =>
    rw [List.lookup_cons, List.lookup_cons]
    by_cases q : (f == k) = true
    · rw [q]; exact .inr ⟨p, v, rfl, rfl, r⟩
    · rw [Bool.not_eq_true] at q; rw [q]; exact ih
theorem RepXD.put {H : Hp} {fs : List (Str × PV)} {vs : List (Str × V)} {f : Str} {p : PV} {v : V} (r : Rep K H p v) (h : RepXD K H fs vs) : RepXD K H (putX f p fs) (putF f v vs) := by
  induction h with
  | nil => exact .cons r .nil
  | @cons k p' v' ps vs r' t ih =>
    unfold putX putF
    by_cases q : k = f
    · rw [if_pos q, if_pos q]; exact .cons r t
    · rw [if_neg q, if_neg q]; exact .cons r' ih
theorem RepXD.len {H : Hp} {fs : List (Str × PV)} {vs : List (Str × V)} (h : RepXD K H fs vs) : fs.length = vs.length := by
  induction h with
  | nil => rfl
  | cons _ _ ih => exact congrArg (· + 1) ih
theorem lk_hit {f : Str} {v : PV} {fs : List (Str × PV)} : ((f, v) :: fs).lookup f = some v := by rw [List.lookup_cons, beq_self_eq_true]
theorem lk_miss {f g : Str} {v : PV} {fs : List (Str × PV)} {o : Option PV} (n : f ≠ g) (h : fs.lookup f = o) : ((g, v) :: fs).lookup f = o := by
  rw [List.lookup_cons, show (f == g) = false from beq_eq_false_iff_ne.mpr n]; exact h
theorem lk_nil {f : Str} : ([] : List (Str × PV)).lookup f = none := rfl
theorem px_hit {f : Str} {v u : PV} {fs : List (Str × PV)} : (f, v) :: fs = putX f v ((f, u) :: fs) := by unfold putX; rw [if_pos rfl]
theorem px_miss {f g : Str} {v u : PV} {fs fs' : List (Str × PV)} (n : f ≠ g) (h : fs' = putX f v fs) : (g, u) :: fs' = putX f v ((g, u) :: fs) := by
  conv => rhs; unfold putX
  rw [if_neg (Ne.symm n), ← h]
theorem px_nil {f : Str} {v : PV} : [(f, v)] = putX f v [] := rfl
theorem Tk.ins {H : Hp} {p C dx : Addr} {vs : List (Str × V)} {o : HO} (h : H p = some (.ins C dx vs)) : Tk K H (L2.upd H p o) := .upd (no_tup h (fun _ z => nomatch z) (fun _ _ z => nomatch z))
theorem Tk_ins {H : Hp} {M : PHp} {a C dx : Addr} {l' : List (Str × PV)} {vs vs' : List (Str × V)} (m : RelM K H M) (e : H a = some (.ins C dx vs)) (r : RepXD K H l' vs') : Tk K H (upd H a (.ins C dx vs')) ∧ RelM K (upd H a (.ins C dx vs')) (updM M a (.ins C dx l')) :=
  ⟨.ins e, m.put (.ins e) ⟨vs', upd_same, r.mono (.ins e)⟩⟩
/-! ### attributes -/
@[reducible] def tFldP (K : Kf) (te : TEp) (f : Str) : TEp := fun σ M Q => te σ M fun x M1 => match x with
  | .ref a => ∃ C dx fs v, M1 a = some (.ins C dx fs) ∧ FldOk K C f ∧ fs.lookup f = some v ∧ Q v M1
  | _ => False
theorem pfld {e : Expr} {f : Str} {te : TEp} (he : PEp X H0 e te) (hb : attributeBase e f X.env (eval e X.env) = eval e X.env := by rfl) (hK : X.K = K := by rfl) : PEp X H0 (.Attribute e f pos) (tFldP K te f) := by
  subst hK
  exact peW (pe_fld he hb) fun σ H Q ⟨σp, M, Qp, t, s, m, u, k⟩ => ⟨σp, M, _, t, s, m, u, fun x H1 px M1 t1 m1 rx u1 => by
    cases rx with
    | ref a =>
      obtain ⟨C, dx, fs, v, e1, ok, l, q⟩ := u1
      obtain ⟨vs, e2, r⟩ := m1 a _ e1
      rcases r.lk f with ⟨h, _⟩ | ⟨p, w, h1, h2, rv⟩
      · rw [l] at h; cases h
      · rw [l] at h1; cases h1
        exact ⟨a, C, dx, vs, w, rfl, e2, ok.1, ok.2, h2, k _ H1 _ M1 t1 m1 rv q⟩
    | _ => exact u1.elim⟩
@[reducible] def tFldS (K : Kf) (to tv : TEp) (f : Str) : TSp := fun D σ M => tv σ M fun v M1 => to σ M1 fun x M2 => match x with
  | .ref a => ∃ C dx fs fs', M2 a = some (.ins C dx fs) ∧ FldOk K C f ∧ fs.length < 1000 ∧ fs' = putX f v fs ∧ D.nx σ (updM M2 a (.ins C dx fs'))
  | _ => False
theorem psfld {o value : Expr} {f : Str} {to tv : TEp} {pos' : Pos} (ho : PEp X H0 o to) (hv : PEp X H0 value tv) (hs : swapsWith value (some (.Attribute o f pos')) pos.line X.env = pure false := by rfl) (hK : X.K = K := by rfl) :
    PSp' X H0 (.Assign [.Attribute o f pos'] value pos) (tFldS K to tv f) := by
  subst hK
  exact psW (ps_fld ho hv hs) fun D σ H ⟨σp, M, Dp, t, s, m, u, k⟩ => ⟨σp, M, _, t, s, m, u, fun v H1 pv M1 t1 m1 rv u1 => ⟨σp, M1, _, t.trans t1, s.mono t1, m1, u1, fun x H2 px M2 t2 m2 rx u2 => by
    cases rx with
    | ref a =>
      obtain ⟨C, dx, fs, fs', e1, ok, hl, rfl, q⟩ := u2
      obtain ⟨vs, e2, r⟩ := m2 a _ e1
      have r2 : RepXD X.K H2 (putX f pv fs) (putF f v vs) := r.put (rv.mono t2)
      obtain ⟨tk, rm⟩ := Tk_ins m2 e2 r2
      exact ⟨a, C, dx, vs, rfl, e2, ok.1, ok.2, by rw [← r.len]; exact hl, k.nx _ _ _ _ ((t1.trans t2).trans tk) (s.mono ((t1.trans t2).trans tk)) rm q⟩
    | _ => exact u2.elim⟩⟩
/-! ### methods -/
structure CalleeM (P : Program) (w : World) (K : Kf) (mg : Str → Option Value) (base : Heap) (k : Nat) (C : Addr) (m : Str) (ps : List Str) (psp : PSpec) : Prop where
  ex : ∃ f fd, FnOk P w K mg base CX0 k f fd ps (concF K psp) ∧ Cls K C ∧ Meth K C m f ∧ Binds K fd ps []
@[reducible] def tMethP (C : Addr) (m : Str) (psp : PSpec) (to : TEp) (ta : TAp) : TEp := fun σ M Q => to σ M fun x M1 => match x with
  | .ref a => (∃ dx fs, M1 a = some (.ins C dx fs) ∧ fs.lookup m = none) ∧ ta σ M1 fun ps M2 => psp (.ref a :: ps) M2 Q fun _ _ _ => False
  | _ => False
theorem meth_conc {C : Addr} {m : Str} {psp : PSpec} {to : TEp} {ta : TAp} {σ : L2.St} {H : Hp} {Q : VK} (h : concE K H0 (tMethP C m psp to ta) σ H Q) : tMeth C m (concF K psp) [] E0 (concE K H0 to) (concA K H0 ta) σ H Q := by
  obtain ⟨σp, M, Qp, t, s, m, u, k⟩ := h
  refine ⟨σp, M, _, t, s, m, u, fun x H1 px M1 t1 m1 rx u1 => ?_⟩
  cases rx with
  | ref a =>
    obtain ⟨⟨dx, fs, e1, l⟩, u1⟩ := u1
    obtain ⟨vs, e2, r⟩ := m1 a _ e1
    rename_i m'
    have hl : vs.lookup m' = none := by
      rcases r.lk m' with ⟨_, h⟩ | ⟨p, w, h1, _⟩
      · exact h
      · rw [l] at h1; cases h1
    refine ⟨a, dx, vs, rfl, e2, hl, σp, M1, _, t.trans t1, s.mono t1, m1, u1, fun ws H2 ps M2 t2 m2 rs u2 => ?_⟩
    show concF K psp (V.ref a :: (ws ++ [])) H2 Q E0
    rw [List.append_nil]
    exact ⟨.ref a :: ps, M2, Qp, _, .cons (.ref a) rs, m2, u2, fun v H3 p M3 t3 => k v H3 p M3 ((t1.trans t2).trans t3), fun _ _ _ _ _ _ z => z⟩
  | _ => exact u1.elim
theorem pmeth {k : Nat} {C : Addr} {m : Str} {ps : List Str} {psp : PSpec} {o e : Expr} {es : List Expr} {to : TEp} {ta : TAp} {apos : Pos} {pl : Sem Bool} (Cm : CalleeM X.prog X.w X.K X.mg X.base k C m ps psp) (hr : Room k X.A) (ho : PEp X H0 o to) (ha : PAp X H0 (e :: es) ta)
    (hst : starEach (e :: es) X.env = (false, eval e X.env) :: starEach es X.env := by rfl) (hpl : (backTo pos (starEach es X.env)).any (·.1) = false := by rfl)
    (ht : eval (.Call (.Attribute o m apos) (e :: es) [] pos) X.env = (do
      let ov ← eval o X.env
      standAt apos.atName
      let (f, first) ← holding [ov] (getMethod ov m pl)
      callWith pos f first (backTo pos (starEach (e :: es) X.env)) (backToKw pos (keywordEach [] X.env))) := by rfl) : PEp X H0 (.Call (.Attribute o m apos) (e :: es) [] pos) (tMethP C m psp to ta) := by
  obtain ⟨f, fd, F, c, hm, hb⟩ := Cm.ex
  exact peW (pe_meth ho c hm F hr hb .nil pass0 ha hst hpl ht) fun σ H Q h => meth_conc h
theorem pmeth0 {k : Nat} {C : Addr} {m : Str} {ps : List Str} {psp : PSpec} {o : Expr} {to : TEp} {apos : Pos} {pl : Sem Bool} (Cm : CalleeM X.prog X.w X.K X.mg X.base k C m ps psp) (hr : Room k X.A) (ho : PEp X H0 o to)
    (ht : eval (.Call (.Attribute o m apos) [] [] pos) X.env = (do
      let ov ← eval o X.env
      standAt apos.atName
      let (f, first) ← holding [ov] (getMethod ov m pl)
      callWith pos f first (backTo pos (starEach [] X.env)) (backToKw pos (keywordEach [] X.env))) := by rfl) : PEp X H0 (.Call (.Attribute o m apos) [] [] pos) (tMethP C m psp to tNil) := by
  obtain ⟨f, fd, F, c, hm, hb⟩ := Cm.ex
  refine peW (pe_meth0 ho c hm F hr hb .nil pass0 ht) fun σ H Q ⟨σp, M, Qp, t, s, m, u, k⟩ => ?_
  refine ⟨σp, M, _, t, s, m, u, fun x H1 px M1 t1 m1 rx u1 => ?_⟩
  cases rx with
  | ref a =>
    obtain ⟨⟨dx, fs, e1, l⟩, u1⟩ := u1
    obtain ⟨vs, e2, r⟩ := m1 a _ e1
    rename_i m' _
    have hl : vs.lookup m' = none := by
      rcases r.lk m' with ⟨_, h⟩ | ⟨p, w, h1, _⟩
      · exact h
      · rw [l] at h1; cases h1
    exact ⟨a, dx, vs, rfl, e2, hl, [.ref a], M1, Qp, _, .cons (.ref a) .nil, m1, u1, fun v H3 p M3 t3 => k v H3 p M3 (t1.trans t3), fun _ _ _ _ _ _ z => z⟩
  | _ => exact u1.elim
/-! ### properties -/
structure CalleeP (P : Program) (w : World) (K : Kf) (mg : Str → Option Value) (base : Heap) (k : Nat) (C : Addr) (m : Str) (ps : List Str) (psp : PSpec) : Prop where
  ex : ∃ p f fd, FnOk P w K mg base CX0 k f fd ps (concF K psp) ∧ Cls K C ∧ PropOf K C m p f ∧ Binds K fd ps []
@[reducible] def tPropP (C : Addr) (psp : PSpec) (to : TEp) : TEp := fun σ M Q => to σ M fun x M1 => match x with
  | .ref a => (∃ dx fs, M1 a = some (.ins C dx fs)) ∧ psp [.ref a] M1 Q fun _ _ _ => False
  | _ => False
theorem pprop {k : Nat} {C : Addr} {f : Str} {ps : List Str} {psp : PSpec} {e : Expr} {te : TEp} (Cm : CalleeP X.prog X.w X.K X.mg X.base k C f ps psp) (hr : Room (k + 1) X.A) (he : PEp X H0 e te)
    (hab : attributeBase e f X.env (eval e X.env) = eval e X.env := by rfl) : PEp X H0 (.Attribute e f pos) (tPropP C psp te) := by
  obtain ⟨p, g, fd, F, c, hp, hb⟩ := Cm.ex
  refine peW (pe_prop (E := E0) he c hp F hr hb .nil (fun _ _ _ _ _ _ _ h => h.elim) hab) fun σ H Q ⟨σp, M, Qp, t, s, m, u, k⟩ => ?_
  refine ⟨σp, M, _, t, s, m, u, fun x H1 px M1 t1 m1 rx u1 => ?_⟩
  cases rx with
  | ref a =>
    obtain ⟨⟨dx, fs, e1⟩, u1⟩ := u1
    obtain ⟨vs, e2, r⟩ := m1 a _ e1
    exact ⟨a, dx, vs, rfl, e2, [.ref a], M1, Qp, _, .cons (.ref a) .nil, m1, u1, fun v H3 p M3 t3 => k v H3 p M3 (t1.trans t3), fun _ _ _ _ _ _ z => z⟩
  | _ => exact u1.elim
/-! ### making -/
structure CalleeK (P : Program) (w : World) (K : Kf) (mg : Str → Option Value) (base : Heap) (k : Nat) (x : Str) (ps : List Str) (psp : PSpec) : Prop where
  ex : ∃ f fd, FnOk P w K mg base CX0 k f fd ps (concF K psp) ∧ mg x = some (.ref (clsA K x)) ∧ Mk K (clsA K x) f ∧ Binds K fd ps []
@[reducible] def tMakeP (C : Addr) (psp : PSpec) (ta : TAp) : TEp := fun σ M Q => ta σ M fun ps M1 => ∀ a dx, M1 a = none → psp (.ref a :: ps) (updM M1 a (.ins C dx [])) (fun v M2 => v = .non ∧ Q (.ref a) M2) fun _ _ _ => False
theorem make_conc {C : Addr} {psp : PSpec} {ta : TAp} {σ : L2.St} {H : Hp} {Q : VK} (h : concE K H0 (tMakeP C psp ta) σ H Q) : tMake C (concF K psp) [] E0 (concA K H0 ta) σ H Q := by
  obtain ⟨σp, M, Qp, t, s, m, u, k⟩ := h
  refine ⟨σp, M, _, t, s, m, u, fun vs H1 ps M1 t1 m1 rs u1 => ?_⟩
  intro a dx ha hdx ne
  show concF K psp (V.ref a :: (vs ++ [])) _ _ E0
  rw [List.append_nil]
  have tk1 : Tk K H1 (upd H1 dx (.own a)) := .new hdx
  have hn : (upd H1 dx (.own a)) a = none := by rw [upd_ne (Ne.symm ne)]; exact ha
  have tk2 : Tk K (upd H1 dx (.own a)) (upd (upd H1 dx (.own a)) a (.ins C dx [])) := .new hn
  have m2 : RelM K (upd H1 dx (.own a)) M1 := m1.new hdx
  refine ⟨.ref a :: ps, updM M1 a (.ins C dx []), _, _, .cons (.ref a) (rs.mono (tk1.trans tk2)), m2.put tk2 ⟨[], upd_same, .nil⟩, u1 a dx (m1.fresh ha), fun v H3 p M3 t3 m3 r3 q => ?_, fun _ _ _ _ _ _ z => z⟩
  obtain ⟨q1, q2⟩ := q
  subst q1
  cases r3
  exact ⟨rfl, k _ H3 _ M3 ((t1.trans (tk1.trans tk2)).trans t3) m3 (.ref a) q2⟩
theorem pmake {k : Nat} {x : Str} {ps : List Str} {psp : PSpec} {p : Pos} {e : Expr} {es : List Expr} {ta : TAp} (Cm : CalleeK X.prog X.w X.K X.mg X.base k x ps psp) (hr : Room (k + 1) X.A) (ha : PAp X H0 (e :: es) ta) (hg : Gl X x := by rfl) (hd : (x == ("__debug__" : Str)) = false := by decide)
    (he : starEach (e :: es) X.env = (false, eval e X.env) :: starEach es X.env := by rfl) (hpl : (backTo pos (starEach es X.env)).any (·.1) = false := by rfl) (hK : X.K = K := by rfl) : PEp X H0 (.Call (.Name x p) (e :: es) [] pos) (tMakeP (clsA K x) psp ta) := by
  subst hK
  obtain ⟨f, fd, F, hm, mk, hb⟩ := Cm.ex
  exact peW (pe_make mk F hr hg hm hb .nil pass0 ha hd he hpl) fun σ H Q h => make_conc h
/-! ### instances called -/
structure CalleeO (P : Program) (w : World) (K : Kf) (mg : Str → Option Value) (base : Heap) (k : Nat) (C : Addr) (ps : List Str) (psp : PSpec) : Prop where
  ex : ∃ f fd, FnOk P w K mg base CX0 k f fd ps (concF K psp) ∧ StX.CallO K C f ∧ Binds K fd ps []
@[reducible] def tCallOP (C : Addr) (psp : PSpec) (to : TEp) (ta : TAp) : TEp := fun σ M Q => to σ M fun x M1 => match x with
  | .ref a => ta σ M1 fun ps M2 => (∃ dx fs, M2 a = some (.ins C dx fs)) ∧ psp (.ref a :: ps) M2 Q fun _ _ _ => False
  | _ => False
theorem pcallo {k : Nat} {C : Addr} {ps : List Str} {psp : PSpec} {fe e : Expr} {es : List Expr} {tf : TEp} {ta : TAp} (Cm : CalleeO X.prog X.w X.K X.mg X.base k C ps psp) (hr : Room k X.A) (hf : PEp X H0 fe tf) (ha : PAp X H0 (e :: es) ta)
    (ht : eval (.Call fe (e :: es) [] pos) X.env = (do callWith pos (← eval fe X.env) [] (backTo pos (starEach (e :: es) X.env)) (backToKw pos (keywordEach [] X.env))) := by rfl)
    (he : starEach (e :: es) X.env = (false, eval e X.env) :: starEach es X.env := by rfl) (hpl : (backTo pos (starEach es X.env)).any (·.1) = false := by rfl) : PEp X H0 (.Call fe (e :: es) [] pos) (tCallOP C psp tf ta) := by
  obtain ⟨f, fd, F, c, hb⟩ := Cm.ex
  refine peW (StX.pe_callO hf c (F.raw hb .nil) hr pass0 ha ht he hpl) fun σ H Q ⟨σp, M, Qp, t, s, m, u, k⟩ => ?_
  refine ⟨σp, M, _, t, s, m, u, fun x H1 px M1 t1 m1 rx u1 => ?_⟩
  cases rx with
  | ref a =>
    refine ⟨a, rfl, σp, M1, _, t.trans t1, s.mono t1, m1, u1, fun ws H2 ps M2 t2 m2 rs u2 => ?_⟩
    obtain ⟨⟨dx, fs, e1⟩, u2⟩ := u2
    obtain ⟨vs, e2, r⟩ := m2 a _ e1
    refine ⟨.inr ⟨dx, vs, e2⟩, ?_⟩
    show concF X.K psp ((V.ref a :: ws) ++ []) H2 Q E0
    rw [List.append_nil]
    exact ⟨.ref a :: ps, M2, Qp, _, .cons (.ref a) rs, m2, u2, fun v H3 p M3 t3 => k v H3 p M3 ((t1.trans t2).trans t3), fun _ _ _ _ _ _ z => z⟩
  | _ => exact u1.elim
/-- a method's own proof -/
theorem meth_of {P : Program} {w : World} {mg : Str → Option Value} {base : Heap} {k : Nat} {x q : Str} {st : Stmt} {N ps : List Str} {psp : PSpec} {f : Addr} {fd : FuncData} (F : Fun K x q st f fd) (S : FnScope N ps (defScope st)) (len : ∀ vs M Q E, psp vs M Q E → vs.length = ps.length)
    (body : ∀ f cdv A outer s H E, Room k (defCx P w K mg base N q st f cdv A outer s H E).A → ∃ t, PSsp (defCx P w K mg base N q st f cdv A outer s H E) H (defBody st) t ∧ ∀ vs M Q Ep, psp vs M Q Ep → t (ends Q) (startP N vs) M) :
    FnOk P w K mg base CX0 (k + 1) f fd ps (concF K psp) := by
  refine F.ok S (fun vs H Q E h => ?_) (fun cdv A outer s H vs Q E hr h => ?_)
  · obtain ⟨qs, M, Qp, Ep, r, m, u, _⟩ := h
    rw [← r.length]
    exact len _ _ _ _ u
  · obtain ⟨qs, M, Qp, Ep, r, m, u, k1, k2⟩ := h
    obtain ⟨t, d, b⟩ := body f cdv A outer s H E hr
    refine ⟨_, d, startP N qs, M, ends Qp, Tk.refl _ _, startP_rel r N, m, b _ _ _ _ u, ⟨fun σ' H' σp' M' t1 s1 m1 q => ?_, fun v H' p M' t1 m1 r1 q => ?_, fun _ _ _ _ _ _ _ z => z.elim, fun _ _ _ _ _ _ _ z => z.elim⟩⟩
    · obtain ⟨M0, sb, q⟩ := q
      exact k1 _ _ _ _ t1 (m1.sub sb) .non q
    · obtain ⟨M0, sb, q⟩ := q
      exact k1 _ _ _ _ t1 (m1.sub sb) r1 q
end
end PL

set_option Elab.async false
set_option linter.all false
set_option maxRecDepth 100000
set_option maxHeartbeats 4000000
/-! PL18: k in d. -/
namespace PL
open PySem PySem.Spec L2
section
variable {X : Cx} {H0 : Hp} {pos : Pos} {K : Kf} {i o : Expr} {ti td : TEp}
@[reducible] def tDInP (neg : Bool) (ti td : TEp) : TEp := fun σ M Q => ti σ M fun y M1 => td σ M1 fun x M2 => match x with | .ref a => ∃ kvs k, rdD M2 a kvs ∧ y = kP k ∧ Q (.bl (if neg then !(valP kvs k).isSome else (valP kvs k).isSome)) M2 | _ => False
theorem din_conc {neg : Bool} {σ : L2.St} {H : Hp} {Q : VK} (h : concE K H0 (tDInP neg ti td) σ H Q) : concE K H0 ti σ H fun y H1 => concE K H0 td σ H1 fun x H2 => ∃ a ov, x = .ref a ∧ DGet H2 a y ov ∧ Q (.bl (if neg then !ov.isSome else ov.isSome)) H2 := by
  obtain ⟨σp, M, Qp, t, s, m, u, k⟩ := h
  refine ⟨σp, M, _, t, s, m, u, fun y H1 py M1 t1 m1 ry u1 => ⟨σp, M1, _, t.trans t1, s.mono t1, m1, u1, fun x H2 px M2 t2 m2 rx u2 => ?_⟩⟩
  cases rx with
  | ref a =>
    obtain ⟨kvs, kk, hd, rfl, q⟩ := u2
    obtain ⟨vs, e1, r⟩ := hd.to m2
    refine ⟨a, valV vs kk, rfl, .inl ⟨vs, kk, e1, kP_inv (ry.mono t2), rfl⟩, ?_⟩
    rcases r.val kk with ⟨n1, n2⟩ | ⟨p', v, n1, n2, rv⟩
    · rw [n1] at q; rw [n2]
      exact k _ _ _ _ (t1.trans t2) m2 (.bl _) q
    · rw [n1] at q; rw [n2]
      exact k _ _ _ _ (t1.trans t2) m2 (.bl _) q
  | _ => exact u2.elim
theorem pdin (hu : X.A.units + 1 < cLine) (hi : PEp X H0 i ti) (ho : PEp X H0 o td) (h1 : behindInMarks .In o = false := by rfl) : PEp X H0 (.Compare i [.In] [o] pos) (tDInP false ti td) :=
  peW (pe_cmp (pc_din hu hi ho) h1) fun σ H Q h => by exact din_conc h
theorem pdnotin (hu : X.A.units + 1 < cLine) (hi : PEp X H0 i ti) (ho : PEp X H0 o td) (h1 : behindInMarks .NotIn o = false := by rfl) : PEp X H0 (.Compare i [.NotIn] [o] pos) (tDInP true ti td) :=
  peW (pe_cmp (pc_dnotin hu hi ho) h1) fun σ H Q h => by exact din_conc h
theorem ptdin (hu : X.A.units + 1 < cLine) (hi : PEp X H0 i ti) (ho : PEp X H0 o td) (h1 : behindInMarks .In o = false := by rfl) : PTp X H0 (.Compare i [.In] [o] pos) (tB (tDInP false ti td)) :=
  ptW (pt_cmp (pc_din hu hi ho) h1) fun σ H Q h => by
    have h2 := tB_conc h
    exact din_conc h2
theorem ptdnotin (hu : X.A.units + 1 < cLine) (hi : PEp X H0 i ti) (ho : PEp X H0 o td) (h1 : behindInMarks .NotIn o = false := by rfl) : PTp X H0 (.Compare i [.NotIn] [o] pos) (tB (tDInP true ti td)) :=
  ptW (pt_cmp (pc_dnotin hu hi ho) h1) fun σ H Q h => by
    have h2 := tB_conc h
    exact din_conc h2
end
end PL

set_option Elab.async false
set_option linter.all false
set_option maxRecDepth 100000
set_option maxHeartbeats 2000000
/-! PL19: zip, enumerate in a loop. -/
namespace PL
open PySem PySem.Spec L2 PyProof.Rows
section
variable {K : Kf} {X : Cx} {H0 : Hp} {pos : Pos}
/-- a walk whose items are new pairs, laid with their object known -/
def pairIt (J : It) (is : Nat → Hp → V → V → Prop) : It :=
  ⟨J.go, fun i H v H' => ∃ (T : Addr) (ob : Obj) (x y : V), v = .ref T ∧ H T = none ∧ ob.dict = none ∧ H' = upd H T (.frz ob (.tup [x, y])) ∧ is i H x y, J.stop⟩
abbrev zipL (K : Kf) (a b : Addr) : It := pairIt (Itz K a b) fun i H x y => (∀ xs, SqL K H a xs → xs[i]? = some x) ∧ ∀ ys, SqL K H b ys → ys[i]? = some y
abbrev zipT (K : Kf) (a b : Addr) : It := pairIt (RZ.ItzT K a b) fun i H x y => (∀ xs, SqT K H a xs → xs[i]? = some x) ∧ ∀ ys, SqT K H b ys → ys[i]? = some y
theorem five_fp {pins : List (Addr × Obj)} {σ : L2.St} {H : Hp} {s : Shared} (I : Inv X pins σ H s) : ∀ c, c ∈ [s.heap.objs.size + 4, s.heap.objs.size + 2, s.heap.objs.size + 3, s.heap.objs.size, s.heap.objs.size + 1] → FpOk X pins H c := fun c hc => by
  have hle : s.heap.objs.size ≤ c := by
    simp only [List.mem_cons, List.not_mem_nil, or_false] at hc
    omega
  exact I.fpOk hle (I.hok.fresh hle)
theorem pair_ok {H : Hp} {h : Heap} {n : Addr} {x y : V} {u v : Value} {P : Program} {w : World} (e : h.get? n = some { cls := .type "tuple", data := .seq #[u, v] }) (rx : RelV x u) (ry : RelV y v) :
    ObjOk P w (upd H n (.frz { cls := .type "tuple", data := .seq #[u, v] } (.tup [x, y]))) h n (.frz { cls := .type "tuple", data := .seq #[u, v] } (.tup [x, y])) :=
  ⟨e, by show 2 ≤ sizeLine; decide, [u, v], .cons rx (.cons ry .nil), ⟨_, e, rfl, _, rfl⟩⟩
theorem fp_pair {pins : List (Addr × Obj)} {H : Hp} {cs : List Addr} {n : Nat} {o : HO} (hf : ∀ c ∈ cs, FpOk X pins H c) (hl : ∀ c ∈ cs, c < n) : ∀ c ∈ cs, (upd H n o) c = none := fun c hc => by
  rw [upd_ne (Nat.ne_of_lt (hl c hc))]
  exact (hf c hc).1
theorem turn_zl {P : Program} {w : World} {elts : List Expr} {kk : Nat} {tpos : Pos} {a b z TI TO i1 i2 : Addr} (D : ZipApart z TI TO i1 i2 a b) :
    Turn P w K (.Tuple elts kk tpos) (zipL K a b) [z, TI, TO, i1, i2] z (fun i h => IsZip h z TI TO .none ∧ IsPair h TI (.ref i1) (.ref i2) ∧ (∃ x y, IsPair h TO x y) ∧ h.IsListIter i1 a i ∧ h.IsListIter i2 b i) :=
  have T0 := turn_zip (P := P) (w := w) (K := K) (elts := elts) (kk := kk) (tpos := tpos) D
  { mem := T0.mem, obj := T0.obj, keep := T0.keep, done := T0.done, self := T0.self
    item := by
      intro X hP hw hK hc i pins s σ H E I hf st hg
      subst hP hw hK
      obtain ⟨hz, hTI, ⟨x0, y0, hTO⟩, h1, h2⟩ := st
      obtain ⟨xs, ys, x, y, hx, hy, gx, gy⟩ := hg
      obtain ⟨us, ru, lu, _⟩ := I.list hx
      obtain ⟨vs, rv, lv, _⟩ := I.list hy
      obtain ⟨u, hu, ru⟩ := ru.get gx
      obtain ⟨v, hv, rv⟩ := rv.get gy
      have zl : z < s.heap.objs.size := Heap.lt_size hz
      refine wpAny_pyNext_zip_item D hz hTI hTO h1 h2 lu.isList lv.isList (x := u) (y := v) (by simpa using hu) (by simpa using hv) fun h' z1 O1 j1 j2 hT _ kp => ?_
      refine ⟨_, rfl, wpAny_letOwnedTupleGo_zip (s := { s with heap := h' }) z1 fun h2' z2 sb => ?_⟩
      have there : h2'.get? s.heap.objs.size = some { cls := .type "tuple", data := .seq #[u, v] } := (sb.2 _ (Nat.ne_of_gt zl)).trans hT
      refine ⟨.ref s.heap.objs.size, _, I.turnedNew (t' := s.toks) (ch := [z, TI, TO, i1, i2]) (fun c o nc q => (sb.2 c fun q' => nc (by simp [q'])).trans (kp c o (fun q' => nc (by simp [q'])) (fun q' => nc (by simp [q'])) (fun q' => nc (by simp [q'])) (fun q' => nc (by simp [q'])) q)) hf (Nat.le_refl _) (pair_ok there ru rv), rfl,
        ⟨_, _, x, y, rfl, I.hok.fresh (Nat.le_refl _), rfl, rfl, fun l hl => by rw [I.list_inj hl hx]; exact gx, fun l hl => by rw [I.list_inj hl hy]; exact gy⟩,
        ⟨z2, (sb.2 _ D.TIz).trans (kp _ _ D.TIz D.TITO D.TIi1 D.TIi2 hTI), ⟨u, v, (sb.2 _ D.TOz).trans O1⟩, j1.at fun o q => (sb.2 _ D.i1z).trans q, j2.at fun o q => (sb.2 _ D.i2z).trans q⟩, fp_pair hf fun c hc => ?_⟩
      simp only [List.mem_cons, List.not_mem_nil, or_false] at hc
      rcases hc with rfl | rfl | rfl | rfl | rfl
      · exact zl
      · exact Heap.lt_size hTI
      · exact Heap.lt_size hTO
      · obtain ⟨_, e1, _⟩ := h1; exact Heap.lt_size e1
      · obtain ⟨_, e2, _⟩ := h2; exact Heap.lt_size e2 }
theorem turn_zt {P : Program} {w : World} {elts : List Expr} {kk : Nat} {tpos : Pos} {a b z TI TO i1 i2 : Addr} (D : ZipApart z TI TO i1 i2 a b) :
    Turn P w K (.Tuple elts kk tpos) (zipT K a b) [z, TI, TO, i1, i2] z (fun i h => IsZip h z TI TO .none ∧ IsPair h TI (.ref i1) (.ref i2) ∧ (∃ x y, IsPair h TO x y) ∧ h.IsTupleIter i1 a i ∧ h.IsTupleIter i2 b i) :=
  have T0 := RZ.turn_zipT (P := P) (w := w) (K := K) (elts := elts) (kk := kk) (tpos := tpos) D
  { mem := T0.mem, obj := T0.obj, keep := T0.keep, done := T0.done, self := T0.self
    item := by
      intro X hP hw hK hc i pins s σ H E I hf st hg
      subst hP hw hK
      obtain ⟨hz, hTI, ⟨x0, y0, hTO⟩, h1, h2⟩ := st
      obtain ⟨xs, ys, x, y, hx, hy, gx, gy⟩ := hg
      obtain ⟨us, ru, lu, _⟩ := I.tuple hx
      obtain ⟨vs, rv, lv, _⟩ := I.tuple hy
      obtain ⟨u, hu, ru⟩ := ru.get gx
      obtain ⟨v, hv, rv⟩ := rv.get gy
      have zl : z < s.heap.objs.size := Heap.lt_size hz
      refine RZ.pyNext_zipT_item D hz hTI hTO h1 h2 lu lv (x := u) (y := v) (by simpa using hu) (by simpa using hv) fun h' z1 O1 j1 j2 hT _ kp => ?_
      refine ⟨_, rfl, wpAny_letOwnedTupleGo_zip (s := { s with heap := h' }) z1 fun h2' z2 sb => ?_⟩
      have there : h2'.get? s.heap.objs.size = some { cls := .type "tuple", data := .seq #[u, v] } := (sb.2 _ (Nat.ne_of_gt zl)).trans hT
      refine ⟨.ref s.heap.objs.size, _, I.turnedNew (t' := s.toks) (ch := [z, TI, TO, i1, i2]) (fun c o nc q => (sb.2 c fun q' => nc (by simp [q'])).trans (kp c o (fun q' => nc (by simp [q'])) (fun q' => nc (by simp [q'])) (fun q' => nc (by simp [q'])) (fun q' => nc (by simp [q'])) q)) hf (Nat.le_refl _) (pair_ok there ru rv), rfl,
        ⟨_, _, x, y, rfl, I.hok.fresh (Nat.le_refl _), rfl, rfl, fun l hl => by rw [I.tuple_inj hl hx]; exact gx, fun l hl => by rw [I.tuple_inj hl hy]; exact gy⟩,
        ⟨z2, (sb.2 _ D.TIz).trans (kp _ _ D.TIz D.TITO D.TIi1 D.TIi2 hTI), ⟨u, v, (sb.2 _ D.TOz).trans O1⟩, j1.at fun o q => (sb.2 _ D.i1z).trans q, j2.at fun o q => (sb.2 _ D.i2z).trans q⟩, fp_pair hf fun c hc => ?_⟩
      simp only [List.mem_cons, List.not_mem_nil, or_false] at hc
      rcases hc with rfl | rfl | rfl | rfl | rfl
      · exact zl
      · exact Heap.lt_size hTI
      · exact Heap.lt_size hTO
      · obtain ⟨_, e1, _⟩ := h1; exact Heap.lt_size e1
      · obtain ⟨_, e2, _⟩ := h2; exact Heap.lt_size e2 }
def iZipX (K : PySem.W.Frag) (ta : TA) : TI := fun σ H R => ta σ H fun vs H1 => ∃ a b xs ys, vs = [.ref a, .ref b] ∧ ((SqL K H1 a xs ∧ SqL K H1 b ys ∧ R (zipL K a b) H1) ∨ (SqT K H1 a xs ∧ SqT K H1 b ys ∧ R (zipT K a b) H1))
theorem pi_zipX {e e2 : Expr} {ta : TA} {p tpos : Pos} {elts : List Expr} {kk : Nat} (hg : Gl X "zip") (hm : X.mg "zip" = none) (ha : PA X [e, e2] ta)
    (hs : starEach [e, e2] X.env = (false, eval e X.env) :: starEach [e2] X.env := by rfl) (hpl : (backTo pos (starEach [e2] X.env)).any (·.1) = false := by rfl) :
    PI X (.Tuple elts kk tpos) (.Call (.Name "zip" p) [e, e2] [] pos) (iZipX X.K ta) := by
  refine ⟨fun pins s σ H R I q => ?_⟩
  refine Call_ (ld_blt I hg hm PyProof.Rows.boot_zip (PyProof.Rows.callWith_type1 (thn (ha.run pos pins s σ H _ I q) fun us s1 ⟨vs, H1, I1, r1, a, b, xs, ys, ex, q1⟩ => ?_) hs hpl))
  subst ex
  obtain ⟨r, rs, rfl, rr, rrs⟩ : ∃ r rs, us = r :: rs ∧ RelV (.ref a) r ∧ Vals [.ref b] rs := by cases r1 with | cons q1 q2 => exact ⟨_, _, rfl, q1, q2⟩
  obtain ⟨r', rfl, rr'⟩ := vals1 rrs
  cases rr
  cases rr'
  have five := five_fp I1
  rcases q1 with ⟨hx, hy, q1⟩ | ⟨hx, hy, q1⟩
  · obtain ⟨_, _, p1, _⟩ := I1.list hx
    obtain ⟨_, _, p2, _⟩ := I1.list hy
    refine call_zip_2 p1.isList p2.isList fun h' hz hTI hTO h1 h2 _ kp => wpAny_pyIter_zip hz ?_
    exact ⟨_, _, _, _, H1, rfl, I1.kept (t' := s1.toks) kp, turn_zl (PySem.W.ktu_apart s1.heap.objs.size a b p1.lt p2.lt), ⟨hz, hTI, ⟨_, _, hTO⟩, h1, h2⟩, five, q1⟩
  · obtain ⟨_, _, p1, _⟩ := I1.tuple hx
    obtain ⟨_, _, p2, _⟩ := I1.tuple hy
    obtain ⟨_, g1, _⟩ := id p1
    obtain ⟨_, g2, _⟩ := id p2
    refine RZ.call_zipT p1 p2 fun h' hz hTI hTO h1 h2 _ kp => wpAny_pyIter_zip hz ?_
    exact ⟨_, _, _, _, H1, rfl, I1.kept (t' := s1.toks) kp, turn_zt (PySem.W.ktu_apart s1.heap.objs.size a b (Heap.lt_size g1) (Heap.lt_size g2)), ⟨hz, hTI, ⟨_, _, hTO⟩, h1, h2⟩, five, q1⟩
def zipP (l l' : List PV) : List PV := List.zipWith (fun x y => PV.tup [x, y]) l l'
theorem zipP_get {l l' : List PV} {i : Nat} {p : PV} (h : (zipP l l')[i]? = some p) : ∃ x y, l[i]? = some x ∧ l'[i]? = some y ∧ p = .tup [x, y] := by
  unfold zipP at h
  rw [List.getElem?_zipWith] at h
  cases h1 : l[i]? with
  | none => rw [h1] at h; cases h
  | some x =>
    cases h2 : l'[i]? with
    | none => rw [h1, h2] at h; cases h
    | some y => rw [h1, h2] at h; exact ⟨x, y, rfl, rfl, (Option.some.inj h).symm⟩
theorem zipP_of {l l' : List PV} {i : Nat} {x y : PV} (h1 : l[i]? = some x) (h2 : l'[i]? = some y) : (zipP l l')[i]? = some (.tup [x, y]) := by unfold zipP; rw [List.getElem?_zipWith, h1, h2]
theorem zipP_len {l l' : List PV} : (zipP l l').length = min l.length l'.length := by unfold zipP; exact List.length_zipWith
theorem pair_rep {H : Hp} {T : Addr} {ob : Obj} {x y : V} {px py : PV} (hT : H T = none) (hd : ob.dict = none) (rx : Rep K H px x) (ry : Rep K H py y) : Rep K (upd H T (.frz ob (.tup [x, y]))) (.tup [px, py]) (.ref T) ∧ Tk K H (upd H T (.frz ob (.tup [x, y]))) ∧ ∀ M, RelM K H M → RelM K (upd H T (.frz ob (.tup [x, y]))) M := by
  have t : Tk K H (upd H T (.frz ob (.tup [x, y]))) := .new hT
  exact ⟨.tup (.inl ⟨ob, upd_same, hd⟩) (Reps.mono t (.cons rx (.cons ry .nil))), t, fun M m => m.new hT⟩
theorem itr_zl {H1 : Hp} {a b : Addr} {l l' : List PV} : ItR K H1 (zipL K a b) (zipP l l') (fun M => rdL K M a l ∧ rdL K M b l') where
  go := fun i H M t m k hi => by
    obtain ⟨vs, e, r⟩ := k.1.to m
    obtain ⟨ws, e2, r2⟩ := k.2.to m
    rw [zipP_len] at hi
    have h1 : i < vs.length := by rw [← r.length]; omega
    have h2 : i < ws.length := by rw [← r2.length]; omega
    exact ⟨vs, ws, vs[i], ws[i], e, e2, by simp [h1], by simp [h2]⟩
  yld := fun i H M x H' t m k hi y => by
    obtain ⟨T, ob, u, v, rfl, hT, hd, rfl, g1, g2⟩ := y
    obtain ⟨vs, e, r⟩ := k.1.to m
    obtain ⟨ws, e2, r2⟩ := k.2.to m
    rw [zipP_len] at hi
    obtain ⟨v1, q1, p1⟩ := r.get (List.getElem?_eq_getElem (show i < l.length by omega))
    obtain ⟨v2, q2, p2⟩ := r2.get (List.getElem?_eq_getElem (show i < l'.length by omega))
    have q3 := g1 vs e
    have q4 := g2 ws e2
    rw [q1] at q3; cases q3
    rw [q2] at q4; cases q4
    exact ⟨_, zipP_of (List.getElem?_eq_getElem (by omega)) (List.getElem?_eq_getElem (by omega)), pair_rep hT hd p1 p2⟩
  stop := fun H M t m k => by
    obtain ⟨vs, e, r⟩ := k.1.to m
    obtain ⟨ws, e2, r2⟩ := k.2.to m
    refine ⟨vs, ws, e, e2, ?_⟩
    rw [zipP_len, r.length, r2.length]; omega
theorem itr_zt {H1 : Hp} {a b : Addr} {l l' : List PV} {vs ws : List V} (h : SqX K H1 a vs) (r : Reps K H1 l vs) (h2 : SqX K H1 b ws) (r2 : Reps K H1 l' ws) : ItR K H1 (zipT K a b) (zipP l l') (fun _ => True) where
  go := fun i H M t m k hi => by
    rw [zipP_len] at hi
    have h1 : i < vs.length := by rw [← r.length]; omega
    have h3 : i < ws.length := by rw [← r2.length]; omega
    exact ⟨vs, ws, vs[i], ws[i], (t _ _ h).t, (t _ _ h2).t, by simp [h1], by simp [h3]⟩
  yld := fun i H M x H' t m k hi y => by
    obtain ⟨T, ob, u, v, rfl, hT, hd, rfl, g1, g2⟩ := y
    rw [zipP_len] at hi
    obtain ⟨v1, q1, p1⟩ := (r.mono t).get (List.getElem?_eq_getElem (show i < l.length by omega))
    obtain ⟨v2, q2, p2⟩ := (r2.mono t).get (List.getElem?_eq_getElem (show i < l'.length by omega))
    have q3 := g1 vs (t _ _ h).t
    have q4 := g2 ws (t _ _ h2).t
    rw [q1] at q3; cases q3
    rw [q2] at q4; cases q4
    exact ⟨_, zipP_of (List.getElem?_eq_getElem (by omega)) (List.getElem?_eq_getElem (by omega)), pair_rep hT hd p1 p2⟩
  stop := fun H M t m k => by
    refine ⟨vs, ws, (t _ _ h).t, (t _ _ h2).t, ?_⟩
    rw [zipP_len, r.length, r2.length]; omega
@[reducible] def iZipP (K : Kf) (ta : TAp) : TIp := fun σ M R => ta σ M fun vs M1 => match vs with
  | [.tup l, .tup l'] => R (zipP l l') (fun _ => True) M1
  | [.ref a, .ref b] => ∃ l l', rdL K M1 a l ∧ rdL K M1 b l' ∧ R (zipP l l') (fun M => rdL K M a l ∧ rdL K M b l') M1
  | _ => False
theorem pizip {e e2 : Expr} {ta : TAp} {p tpos : Pos} {elts : List Expr} {kk : Nat} (hg : Gl X "zip") (hm : X.mg "zip" = none) (ha : PAp X H0 [e, e2] ta)
    (hs : starEach [e, e2] X.env = (false, eval e X.env) :: starEach [e2] X.env := by rfl) (hpl : (backTo pos (starEach [e2] X.env)).any (·.1) = false := by rfl) :
    PIp' X H0 (.Tuple elts kk tpos) (.Call (.Name "zip" p) [e, e2] [] pos) (iZipP X.K ta) :=
  piW (pi_zipX hg hm ha hs hpl) fun σ H R ⟨σp, M, Rp, t, s, m, u, k⟩ => ⟨σp, M, _, t, s, m, u, fun vs H1 ps M1 t1 m1 rs u1 => by
    cases rs with
    | nil => exact u1.elim
    | cons r rr => cases rr with
      | nil => cases r <;> exact u1.elim
      | cons r2 rr2 => cases rr2 with
        | cons _ _ => cases r <;> cases r2 <;> exact u1.elim
        | nil => cases r with
          | tup h q => cases r2 with
            | tup h2 q2 => exact ⟨_, _, _, _, rfl, .inr ⟨h.t, h2.t, k _ _ _ _ _ t1 m1 (itr_zt h q h2 q2) u1⟩⟩
            | _ => exact u1.elim
          | ref a => cases r2 with
            | ref b =>
              obtain ⟨l, l', h1, h2, u1⟩ := u1
              obtain ⟨vs, e, _⟩ := h1.to m1
              obtain ⟨ws, e2, _⟩ := h2.to m1
              exact ⟨a, b, _, _, rfl, .inl ⟨e, e2, k _ _ _ _ _ t1 m1 itr_zl u1⟩⟩
            | _ => exact u1.elim
          | _ => cases r2 <;> exact u1.elim⟩
end
end PL

set_option Elab.async false
set_option linter.all false
set_option maxRecDepth 100000
set_option maxHeartbeats 2000000
/-! PL20: x in l of exact data (no bools), tuples too. -/
namespace PL
open PySem PySem.Spec L2 PyProof.Rows
section
variable {K : Kf} {X : Cx} {H0 : Hp} {pos : Pos}
/-- data that == tells apart by what they are -/
inductive TxtD : Nat → PV → Prop
  | non {n} : TxtD (n + 1) .non
  | int {n} (i) : TxtD (n + 1) (.int i)
  | str {n} (x) : TxtD (n + 1) (.str x)
  | tup {n l} : l.length ≤ 16777216 → (∀ x ∈ l, TxtD n x) → TxtD (n + 1) (.tup l)
theorem TxtD.pure : ∀ {n : Nat} {x : PV}, TxtD n x → PureD n x
  | _, _, .non => .non
  | _, _, .int _ => .int _
  | _, _, .str _ => .str _
  | _ + 1, .tup _, .tup h1 h2 => .tup h1 fun x hx => (h2 x hx).pure
theorem PureD.plain : ∀ {n : Nat} {x : PV}, PureD n x → (toD x).plain = true
  | _, _, .non => rfl
  | _, _, .bl _ => rfl
  | _, _, .int _ => rfl
  | _, _, .str _ => rfl
  | n + 1, .tup l, .tup _ h => by
    have key : ∀ l : List PV, (∀ x ∈ l, PureD n x) → PyData.plainAll (toDs l) = true := by
      intro l
      induction l with
      | nil => intro _; rfl
      | cons x r ih =>
        intro h
        show ((toD x).plain && PyData.plainAll (toDs r)) = true
        rw [PureD.plain (h x List.mem_cons_self), ih fun y hy => h y (List.mem_cons_of_mem _ hy)]; rfl
    exact key l h
theorem plain_all {n : Nat} : ∀ {l : List PV}, (∀ x ∈ l, PureD n x) → PyData.plainAll (toDs l) = true
  | [], _ => rfl
  | x :: r, h => by
    show ((toD x).plain && PyData.plainAll (toDs r)) = true
    rw [PureD.plain (h x List.mem_cons_self), plain_all fun y hy => h y (List.mem_cons_of_mem _ hy)]; rfl
theorem dps_all {n : Nat} {M : PHp} : ∀ {l : List PV}, (∀ x ∈ l, PureD n x) → DpsP K M l (toDs l)
  | [], _ => .nil
  | x :: r, h => .cons (h x List.mem_cons_self).dp (dps_all fun y hy => h y (List.mem_cons_of_mem _ hy))
theorem TxtD.eqv : ∀ {n m : Nat} {x y : PV}, TxtD n x → TxtD m y → (PyData.eqv (toD x) (toD y) = true ↔ x = y)
  | _, _, _, _, .non, .non => by simp [toD, PyData.eqv]
  | _, _, _, _, .non, .int _ => by simp [toD, PyData.eqv]
  | _, _, _, _, .non, .str _ => by simp [toD, PyData.eqv]
  | _, _, _, _, .non, .tup _ _ => by simp [toD, PyData.eqv]
  | _, _, _, _, .int _, .non => by simp [toD, PyData.eqv]
  | _, _, _, _, .int i, .int j => by simp [toD, PyData.eqv]
  | _, _, _, _, .int _, .str _ => by simp [toD, PyData.eqv]
  | _, _, _, _, .int _, .tup _ _ => by simp [toD, PyData.eqv]
  | _, _, _, _, .str _, .non => by simp [toD, PyData.eqv]
  | _, _, _, _, .str _, .int _ => by simp [toD, PyData.eqv]
  | _, _, _, _, .str a, .str b => by simp [toD, PyData.eqv]
  | _, _, _, _, .str _, .tup _ _ => by simp [toD, PyData.eqv]
  | _, _, _, _, .tup _ _, .non => by simp [toD, PyData.eqv]
  | _, _, _, _, .tup _ _, .int _ => by simp [toD, PyData.eqv]
  | _, _, _, _, .tup _ _, .str _ => by simp [toD, PyData.eqv]
  | n + 1, m + 1, .tup l, .tup l', .tup _ h, .tup _ h' => by
    have key : ∀ l l' : List PV, (∀ x ∈ l, TxtD n x) → (∀ x ∈ l', TxtD m x) → (PyData.eqvAll (toDs l) (toDs l') = true ↔ l = l') := by
      intro l
      induction l with
      | nil =>
        intro l' _ _
        cases l' with
        | nil => simp [toDs, PyData.eqvAll]
        | cons y l' => simp [toDs, PyData.eqvAll]
      | cons x l ih =>
        intro l' h h'
        cases l' with
        | nil => simp [toDs, PyData.eqvAll]
        | cons y l' =>
          show (PyData.eqv (toD x) (toD y) && PyData.eqvAll (toDs l) (toDs l')) = true ↔ _
          rw [Bool.and_eq_true, TxtD.eqv (h x List.mem_cons_self) (h' y List.mem_cons_self), ih l' (fun z hz => h z (List.mem_cons_of_mem _ hz)) (fun z hz => h' z (List.mem_cons_of_mem _ hz)), List.cons.injEq]
    show PyData.eqvAll (toDs l) (toDs l') = true ↔ _
    rw [key l l' h h', PV.tup.injEq]
theorem any_txt {n m : Nat} {x : PV} {l : List PV} (hx : TxtD n x) (hl : ∀ z ∈ l, TxtD m z) : ((toDs l).any fun y => PyData.eqv y (toD x)) = true ↔ x ∈ l := by
  rw [toDs_map, List.any_map, List.any_eq_true]
  constructor
  · rintro ⟨z, hz, e⟩
    rw [← (TxtD.eqv (hl z hz) hx).mp e]; exact hz
  · intro h
    exact ⟨x, h, (TxtD.eqv (hl x h) hx).mpr rfl⟩
def rInF (K : Kf) (neg : Bool) : R2 := fun x y H Q => ∃ d ds, Dp K H x d ∧ Dp K H y (.list ds) ∧ d.plain = true ∧ d.depth ≤ 40 ∧ PyData.plainAll ds = true ∧ Q (.bl (if neg then !(ds.any fun z => PyData.eqv z d) else ds.any fun z => PyData.eqv z d)) H
theorem op_inF (hu : X.A.units + 64 < cLine) : OpR X (compareOp .In) (rInF X.K false) := by
  intro pins s σ H x y v u Q I rx ry h
  obtain ⟨d, ds, hd, he, pd, dd, pe, q⟩ := h
  obtain ⟨as, r1⟩ := Dp.reads I d x v hd rx
  obtain ⟨bs, r2⟩ := Dp.reads I (.list ds) y u he ry
  exact SeqAt.in_list_data r2 r1 pe pd (by have := Nat.min_le_right (PyData.depthAll ds) d.depth; omega) ⟨.bl _, H, I, rfl, q⟩
theorem op_notInF (hu : X.A.units + 64 < cLine) : OpR X (compareOp .NotIn) (rInF X.K true) := by
  intro pins s σ H x y v u Q I rx ry h
  obtain ⟨d, ds, hd, he, pd, dd, pe, q⟩ := h
  obtain ⟨as, r1⟩ := Dp.reads I d x v hd rx
  obtain ⟨bs, r2⟩ := Dp.reads I (.list ds) y u he ry
  exact SeqAt.notIn_list_data r2 r1 pe pd (by have := Nat.min_le_right (PyData.depthAll ds) d.depth; omega) ⟨.bl _, H, I, rfl, q⟩
/-- x in l: tuples among tuples -/
def inDP (K : Kf) (neg : Bool) : R2p := fun x y M Q => match y with
  | .ref a => ∃ l, rdL K M a l ∧ TxtD 40 x ∧ (∀ z ∈ l, TxtD 40 z) ∧ ∀ b, (b = true ↔ x ∈ l) → Q (.bl (if neg then !b else b)) M
  | _ => False
theorem inD_sim {neg : Bool} : SimR K (rInF K neg) (inDP K neg) := fun x y H px py M Q Qp rx ry m u k => by
  cases ry with
  | ref a =>
    obtain ⟨l, h, hx, hl, q⟩ := u
    exact ⟨toD px, toDs l, hx.pure.dp.to m rx, (DpP.lst h (dps_all fun z hz => (hl z hz).pure)).to m (.ref a), hx.pure.plain, hx.pure.depth, plain_all fun z hz => (hl z hz).pure, k _ _ _ _ (Tk.refl _ _) m (.bl _) (q _ (any_txt hx hl))⟩
  | _ => exact u.elim
theorem opInD (hu : X.A.units + 64 < cLine) (hK : X.K = K := by rfl) : OpP X (compareOp .In) (inDP K false) := hK ▸ ⟨_, op_inF hu, inD_sim⟩
theorem opNotInD (hu : X.A.units + 64 < cLine) (hK : X.K = K := by rfl) : OpP X (compareOp .NotIn) (inDP K true) := hK ▸ ⟨_, op_notInF hu, inD_sim⟩
end
end PL

set_option Elab.async false
set_option linter.all false
set_option maxRecDepth 100000
set_option maxHeartbeats 4000000
/-! PL21: a list made longer by another one. -/
namespace PL
open PySem L2
section
variable {X : Cx}
def extendP : RMp := fun x ps M Q => match x, ps with
  | .ref a, [.ref b] => ∃ l r, M a = some (.lst l) ∧ M b = some (.lst r) ∧ l.length + r.length ≤ sizeLine ∧ Q .non (updM M a (.lst (l ++ r)))
  | _, _ => False
theorem mExtend : MtP X "list.extend" extendP := by
  refine ⟨_, mt_extend, fun x xs H px ps M Q Qp rx rs m u k => ?_⟩
  cases rx with
  | ref a => cases rs with
    | nil => exact u.elim
    | cons r rr => cases rr with
      | cons _ _ => cases r <;> exact u.elim
      | nil => cases r with
        | ref b =>
          obtain ⟨l, r, h, h2, hl, q⟩ := u
          obtain ⟨vs, e, rv⟩ := m _ _ h
          obtain ⟨us, e2, ru⟩ := m _ _ h2
          obtain ⟨tk, mm⟩ := Tk_set (l := l) m e (rv.append ru)
          exact ⟨_, _, _, _, rfl, rfl, e, e2, by rw [← rv.length, ← ru.length]; exact hl, k _ _ _ _ tk mm .non q⟩
        | _ => exact u.elim
  | _ => cases rs <;> exact u.elim
end
end PL

set_option Elab.async false
set_option linter.all false
set_option maxRecDepth 100000
set_option maxHeartbeats 4000000
/-! PL22: three names at once. -/
namespace PL
open PySem L2
section
variable {X : Cx} {H0 : Hp} {pos : Pos}
/-- a, b, c = e1, e2, e3 -/
@[reducible] def tPar3 (i j l : Nat) (ta : TAp) : TSp := fun D σ M => ta σ M fun vs M1 => match vs with | [u, v, w] => D.nx (((σ.set i (some u)).set j (some v)).set l (some w)) M1 | _ => False
theorem pspar3 (i j l : Nat) {x y z : Str} {a b c : Expr} {ta : TAp} {px py pz pt : Pos} {kt k2 pt2} (hc : X.calm = true) (hN : X.N.Nodup) (ha : PAp X H0 [a, b, c] ta) (hi : X.N[i]? = some x := by rfl) (hj : X.N[j]? = some y := by rfl) (hl : X.N[l]? = some z := by rfl)
    (p : ∀ t, PA X [a, b, c] t → PS X (.Assign [.Tuple [.Name x px, .Name y py, .Name z pz] kt pt] (.Tuple [a, b, c] k2 pt2) pos) (L2.tPar3 i j l t)) : PSp' X H0 (.Assign [.Tuple [.Name x px, .Name y py, .Name z pz] kt pt] (.Tuple [a, b, c] k2 pt2) pos) (tPar3 i j l ta) :=
  psW (p _ ha) fun D σ H ⟨σp, M, Dp, t, s, m, u, k⟩ => ⟨σp, M, _, t, s, m, u, fun vs H1 ps M1 t1 m1 rs u1 => by
    cases rs with
    | nil => exact u1.elim
    | cons r rr => cases rr with
      | nil => exact u1.elim
      | cons r2 rr2 => cases rr2 with
        | nil => exact u1.elim
        | cons r3 rr3 => cases rr3 with
          | nil => exact ⟨_, _, _, rfl, k.nx _ _ _ _ t1 ((((s.mono t1).set r i).set r2 j).set r3 l) m1 u1⟩
          | cons _ _ => exact u1.elim⟩
end
end PL

set_option Elab.async false
set_option linter.all false
set_option maxRecDepth 100000
set_option maxHeartbeats 4000000
/-! PL23: exceptions of the program's own classes. -/
namespace PL
open PySem L2
/-- what is wanted of an exception: its class, its dict, the slots, the heap -/
abbrev PWX := Value → Option Addr → PSt → PHp → Prop
def concW (K : Kf) (H0 : Hp) (pw : PWX) : WX := fun cls d σ H => ∃ σp M, Tk K H0 H ∧ RelS K H σp σ ∧ RelM K H M ∧ pw cls d σp M
theorem concW.imp {K : Kf} {H0 : Hp} {pw pw' : PWX} (h : ∀ c d σ M, pw c d σ M → pw' c d σ M) {c : Value} {d : Option Addr} {σ : L2.St} {H : Hp} (x : concW K H0 pw c d σ H) : concW K H0 pw' c d σ H := by
  obtain ⟨σp, M, a1, a2, a3, a4⟩ := x
  exact ⟨σp, M, a1, a2, a3, h _ _ _ _ a4⟩
/-- an own class over ValueError, without a maker of its own -/
structure Own (K : Kf) (mg : Str → Option Value) (x : Str) (C : Addr) : Prop where
  g : mg x = some (.ref C)
  q : PySem.W.excIn K C [.type "ValueError", .type "Exception", .type "BaseException", .type "object"] "ValueError.__new__" = true
  kp : PySem.W.keepIn K (.ref C) = true
  sb : PySem.W.subIn K (.ref C) (.type "BaseException") = some true
  ty : PySem.W.typeIn K (.ref C) = some (.type "type")
  hd : PySem.W.hasDictIn K C = true
/-- where an exception may go -/
structure Air (T : CXT) (X : Cx) (H0 : Hp) (pw : PWX) : Prop where
  pass : ∀ σ, PassesAt T X σ (WE (concW X.K H0 pw) σ)
  raise : ∀ {x m : Str} {C : Addr} {j : Nat} {p p2 pos pos' : Pos}, Own X.K X.mg x C → Gl X x → (x == ("__debug__" : Str)) = false → PS X (.Raise (some (.Call (.Name x p) [.Constant (.str m) j p2] [] pos)) none pos') fun _ σ H => concW X.K H0 pw (.ref C) none σ H
section
variable {X : Cx} {H0 : Hp} {pos : Pos} {pw : PWX}
theorem Air.z (hc : X.calm = true) (tk : L2.Takes X (concW X.K H0 pw)) : Air (L2.CX X.prog X.w) X H0 pw :=
  ⟨fun σ => L2.passAt tk σ, fun O hg hd => L2.ps_raise hc tk (L2.pmk_own PySem.F.excBase_ValueError O.q O.g O.kp (L2.raises_own O.sb O.ty) hg hd)⟩
theorem Air.n (hc : X.calm = true) (tk : L2N.Takes X (concW X.K H0 pw)) : Air (L2N.CX X.prog X.w) X H0 pw :=
  ⟨fun σ => L2N.passAt tk σ, fun O hg hd => L2N.ps_raise hc tk (L2N.pmk_own PySem.F.excBase_ValueError O.q O.g O.kp (L2.raises_own O.sb O.ty) hg hd)⟩
theorem cx_nz {P : Program} {w : World} {outer : List Env} {H : Hp} {s : Shared} {E : XK} {u : Value} {s' : Shared} (h : L2N.CX P w outer H s E u s') : L2.CX P w outer H s E u s' := by
  obtain ⟨a, B, H', cls, d, e, fl, r⟩ := h
  exact ⟨a, B, H', cls, d, e, L2H.flyingZ_imp (fun o => L2N.Zn.zc) fl, r⟩
theorem Air.ofz (h : Air (L2.CX X.prog X.w) X H0 pw) : Air (L2N.CX X.prog X.w) X H0 pw := ⟨fun σ pins H s e s' I c => h.pass σ pins H s e s' I (cx_nz c), h.raise⟩
/-- raise X('..') -/
@[reducible] def tRaise (pw : PWX) (C : Addr) : TSp := fun _ σ M => ∃ M0, Sub M0 M ∧ pw (.ref C) none σ M0
theorem psraise {T : CXT} {x m : Str} {C : Addr} {j : Nat} {p p2 pos2 : Pos} (air : Air T X H0 pw) (O : Own X.K X.mg x C) (hg : Gl X x := by rfl) (hd : (x == ("__debug__" : Str)) = false := by decide) :
    PSp' X H0 (.Raise (some (.Call (.Name x p) [.Constant (.str m) j p2] [] pos2)) none pos) (tRaise pw C) :=
  psW (air.raise O hg hd) fun D σ H ⟨σp, M, Dp, t, s, m, ⟨M0, sb, u⟩, k⟩ => ⟨σp, M0, t, s, m.sub sb, u⟩
/-- a def that may raise -/
structure CalleeR (T : CXT) (P : Program) (w : World) (K : Kf) (mg : Str → Option Value) (base : Heap) (k : Nat) (x : Str) (ps : List Str) (psp : PSpec) : Prop where
  ex : ∃ f fd, FnOk P w K mg base T k f fd ps (concF K psp) ∧ mg x = some (.ref f) ∧ PySem.W.keepIn K (.ref f) = true ∧ Binds K fd ps []
theorem FnOk.nz {P : Program} {w : World} {K : Kf} {mg : Str → Option Value} {base : Heap} {k : Nat} {f : Addr} {fd : FuncData} {ps : List Str} {sp : Sp} (F : FnOk P w K mg base (L2N.CX P w) k f fd ps sp) : FnOk P w K mg base (L2.CX P w) k f fd ps sp :=
  ⟨F.len, fun A outer s H args us vs Q E hr he hb hv hs => codeAny_mono (F.run A outer s H args us vs Q E hr he hb hv hs) fun r s' h => by
    cases r with
    | error e => exact cx_nz h
    | ok f => cases f <;> exact h⟩
theorem CalleeR.nz {P : Program} {w : World} {K : Kf} {mg : Str → Option Value} {base : Heap} {k : Nat} {x : Str} {ps : List Str} {psp : PSpec} (h : CalleeR (L2N.CX P w) P w K mg base k x ps psp) : CalleeR (L2.CX P w) P w K mg base k x ps psp := by
  obtain ⟨f, fd, F, r⟩ := h.ex
  exact ⟨⟨f, fd, FnOk.nz F, r⟩⟩
theorem CalleeR.mono {T : CXT} {P : Program} {w : World} {K : Kf} {mg : Str → Option Value} {base : Heap} {j k : Nat} {x : Str} {ps : List Str} {psp : PSpec} (h : CalleeR T P w K mg base j x ps psp) (l : j ≤ k) : CalleeR T P w K mg base k x ps psp := by
  obtain ⟨f, fd, F, r⟩ := h.ex
  exact ⟨⟨f, fd, F.mono l, r⟩⟩
theorem CalleeR.imp {T : CXT} {P : Program} {w : World} {K : Kf} {mg : Str → Option Value} {base : Heap} {k : Nat} {x : Str} {ps : List Str} {psp psp' : PSpec} (h : CalleeR T P w K mg base k x ps psp) (l : ∀ vs M Q E, psp' vs M Q E → psp vs M Q E) : CalleeR T P w K mg base k x ps psp' := by
  obtain ⟨f, fd, F, r⟩ := h.ex
  exact ⟨⟨f, fd, F.imp fun vs H Q E ⟨ps, M, Qp, Ep, h1, h2, h3, h4⟩ => ⟨ps, M, Qp, Ep, h1, h2, l _ _ _ _ h3, h4⟩, r⟩⟩
@[reducible] def tCallR (psp : PSpec) (pw : PWX) (ta : TAp) : TEp := fun σ M Q => ta σ M fun ps M1 => psp ps M1 Q fun cls d M2 => pw cls d σ M2
theorem callR_conc {K : Kf} {psp : PSpec} {ta : TAp} {σ : L2.St} {H : Hp} {Q : VK} (h : concE K H0 (tCallR psp pw ta) σ H Q) : L2.tCallS (concF K psp) (WE (concW K H0 pw)) (concA K H0 ta) σ H Q := by
  obtain ⟨σp, M, Qp, t, s, m, u, k⟩ := h
  refine ⟨σp, M, _, t, s, m, u, fun vs H1 ps M1 t1 m1 rs u1 => ?_⟩
  exact ⟨ps, M1, Qp, _, rs, m1, u1, fun v H2 p M2 t2 => k v H2 p M2 (t1.trans t2), fun cls d H2 M2 t2 m2 z => ⟨σp, M2, t.trans (t1.trans t2), s.mono (t1.trans t2), m2, z⟩⟩
theorem pcallR {T : CXT} {k : Nat} {x : Str} {ps : List Str} {psp : PSpec} {p : Pos} {e : Expr} {es : List Expr} {ta : TAp} (C : CalleeR T X.prog X.w X.K X.mg X.base k x ps psp) (air : Air T X H0 pw) (hr : Room k X.A) (ha : PAp X H0 (e :: es) ta) (hg : Gl X x := by rfl) (hd : (x == ("__debug__" : Str)) = false := by decide)
    (he : starEach (e :: es) X.env = (false, eval e X.env) :: starEach es X.env := by rfl) (hpl : (backTo pos (starEach es X.env)).any (·.1) = false := by rfl) : PEp X H0 (.Call (.Name x p) (e :: es) [] pos) (tCallR psp pw ta) := by
  obtain ⟨f, fd, F, hm, hk, hb⟩ := C.ex
  exact peW (L2.pe_callS F hr hg hm hk hb (fun σ => air.pass σ) ha hd he hpl) fun σ H Q h => callR_conc h
/-! ### a def that raises -/
abbrev defCxR (T : CXT) (P : Program) (w : World) (K : Kf) (mg : Str → Option Value) (base : Heap) (N : List Str) (x : Str) (st : Stmt) (f : Addr) (cdv : Value) (A : Around) (outer : List Env) (s : Shared) (H : Hp) (E : XK) : Cx :=
  cxOf T P w K mg base N x (defScope st) f cdv A outer s H E
theorem okR_z {P : Program} {w : World} {K : Kf} {mg : Str → Option Value} {base : Heap} {k : Nat} {x : Str} {st : Stmt} {N ps : List Str} {psp : PSpec} (h : Here K mg x st ps) (S : FnScope N ps (defScope st)) (len : ∀ vs M Q E, psp vs M Q E → vs.length = ps.length)
    (body : ∀ f cdv A outer s H E (Ep : PXK), Room k (defCxR (L2.CX P w) P w K mg base N x st f cdv A outer s H E).A → Air (L2.CX P w) (defCxR (L2.CX P w) P w K mg base N x st f cdv A outer s H E) H (fun cls d _ M => Ep cls d M) →
      L2.Takes (defCxR (L2.CX P w) P w K mg base N x st f cdv A outer s H E) (concW K H fun cls d _ M => Ep cls d M) →
      PassesOwn (model P w) (defCxR (L2.CX P w) P w K mg base N x st f cdv A outer s H E).A (defCxR (L2.CX P w) P w K mg base N x st f cdv A outer s H E).env (defCxR (L2.CX P w) P w K mg base N x st f cdv A outer s H E).xe →
      ∃ t, PSsp (defCxR (L2.CX P w) P w K mg base N x st f cdv A outer s H E) H (defBody st) t ∧ ∀ vs M Q, psp vs M Q Ep → t (ends Q) (startP N vs) M) :
    CalleeR (L2.CX P w) P w K mg base (k + 1) x ps psp := by
  obtain ⟨f, fd, F, hm, hb⟩ := h.ex
  refine ⟨⟨f, fd, ?_, hm, F.kp, hb⟩⟩
  obtain ⟨oc, od, kV, doc, pm, an, cdv, ct, osl, rfl, lk, hcd⟩ := F.ex
  refine fn_of lk hcd S (fun vs H Q E h => ?_) fun A outer s H vs Q E hr h => ?_
  · obtain ⟨qs, M, Qp, Ep, r, m, u, _⟩ := h
    rw [← r.length]
    exact len _ _ _ _ u
  · obtain ⟨qs, M, Qp, Ep, r, m, u, k1, k2⟩ := h
    have tk : L2.Takes (defCxR (L2.CX P w) P w K mg base N x st f cdv A outer s H E) (concW K H fun cls d _ M => Ep cls d M) := (L2.takes_of (E := E) rfl rfl rfl rfl).imp fun c d σ H' z => by
      obtain ⟨σp, M', t', _, m', q⟩ := z
      exact k2 c d H' M' t' m' q
    obtain ⟨t, d, b⟩ := body f cdv A outer s H E Ep hr (Air.z rfl tk) tk (L2.passes_of rfl)
    refine ⟨_, d, startP N qs, M, ends Qp, Tk.refl _ _, startP_rel r N, m, b _ _ _ u, ⟨fun σ' H' σp' M' t1 s1 m1 q => ?_, fun v H' p M' t1 m1 r1 q => ?_, fun _ _ _ _ _ _ _ z => z.elim, fun _ _ _ _ _ _ _ z => z.elim⟩⟩
    · obtain ⟨M0, sb, q⟩ := q
      exact k1 _ _ _ _ t1 (m1.sub sb) .non q
    · obtain ⟨M0, sb, q⟩ := q
      exact k1 _ _ _ _ t1 (m1.sub sb) r1 q
theorem okR_n {P : Program} {w : World} {K : Kf} {mg : Str → Option Value} {base : Heap} {k : Nat} {x : Str} {st : Stmt} {N ps : List Str} {psp : PSpec} (h : Here K mg x st ps) (S : FnScope N ps (defScope st)) (len : ∀ vs M Q E, psp vs M Q E → vs.length = ps.length)
    (body : ∀ f cdv A outer s H E (Ep : PXK), Room k (defCxR (L2N.CX P w) P w K mg base N x st f cdv A outer s H E).A → Air (L2N.CX P w) (defCxR (L2N.CX P w) P w K mg base N x st f cdv A outer s H E) H (fun cls d _ M => Ep cls d M) →
      PassesOwn (model P w) (defCxR (L2N.CX P w) P w K mg base N x st f cdv A outer s H E).A (defCxR (L2N.CX P w) P w K mg base N x st f cdv A outer s H E).env (defCxR (L2N.CX P w) P w K mg base N x st f cdv A outer s H E).xe →
      ∃ t, PSsp (defCxR (L2N.CX P w) P w K mg base N x st f cdv A outer s H E) H (defBody st) t ∧ ∀ vs M Q, psp vs M Q Ep → t (ends Q) (startP N vs) M) :
    CalleeR (L2N.CX P w) P w K mg base (k + 1) x ps psp := by
  obtain ⟨f, fd, F, hm, hb⟩ := h.ex
  refine ⟨⟨f, fd, ?_, hm, F.kp, hb⟩⟩
  obtain ⟨oc, od, kV, doc, pm, an, cdv, ct, osl, rfl, lk, hcd⟩ := F.ex
  refine fn_of lk hcd S (fun vs H Q E h => ?_) fun A outer s H vs Q E hr h => ?_
  · obtain ⟨qs, M, Qp, Ep, r, m, u, _⟩ := h
    rw [← r.length]
    exact len _ _ _ _ u
  · obtain ⟨qs, M, Qp, Ep, r, m, u, k1, k2⟩ := h
    have tk : L2N.Takes (defCxR (L2N.CX P w) P w K mg base N x st f cdv A outer s H E) (concW K H fun cls d _ M => Ep cls d M) := (L2N.takes_of (E := E) rfl rfl rfl rfl).imp fun c d σ H' z => by
      obtain ⟨σp, M', t', _, m', q⟩ := z
      exact k2 c d H' M' t' m' q
    obtain ⟨t, d, b⟩ := body f cdv A outer s H E Ep hr (Air.n rfl tk) (L2.passes_of rfl)
    refine ⟨_, d, startP N qs, M, ends Qp, Tk.refl _ _, startP_rel r N, m, b _ _ _ u, ⟨fun σ' H' σp' M' t1 s1 m1 q => ?_, fun v H' p M' t1 m1 r1 q => ?_, fun _ _ _ _ _ _ _ z => z.elim, fun _ _ _ _ _ _ _ z => z.elim⟩⟩
    · obtain ⟨M0, sb, q⟩ := q
      exact k1 _ _ _ _ t1 (m1.sub sb) .non q
    · obtain ⟨M0, sb, q⟩ := q
      exact k1 _ _ _ _ t1 (m1.sub sb) r1 q
end
end PL

set_option Elab.async false
set_option linter.all false
set_option maxRecDepth 100000
set_option maxHeartbeats 4000000
/-! PL24: try .. except X as e; try .. except X: raise Y(..) from None; isinstance of what was caught. -/
namespace PL
open PySem L2
theorem RelS.unset {K : Kf} {H : Hp} {v : Option V} : ∀ {σ τ} (i : Nat), RelS K H σ τ → RelS K H (σ.set i none) (τ.set i v)
  | _, _, _, .nil => .nil
  | _, _, 0, .no t => .no t
  | _, _, 0, .yes _ t => .no t
  | _, _, i + 1, .no t => .no (RelS.unset i t)
  | _, _, i + 1, .yes q t => .yes q (RelS.unset i t)
section
variable {X : Cx} {H0 : Hp}
@[reducible] def tTryAs (K : Kf) (i : Nat) (c : Value) (tb : PWX → TSp) (ts : Addr → Value → Option Addr → TSp) : TSp := fun D σ M =>
  tb (fun cls d σ' M' => PySem.W.exmOne K cls c = some true ∧ ∀ a, M' a = none → ts a cls d { nx := fun σ2 M2 => D.nx (σ2.set i none) M2, rt := D.rt, bk := fun σ2 M2 => D.bk (σ2.set i none) M2, ct := fun σ2 M2 => D.ct (σ2.set i none) M2 } (σ'.set i (some (.ref a))) M') D σ M
theorem pstryas {x n : Str} {c : Value} {body suite : List Stmt} {b₀ : Stmt} {np pos pos' : Pos} {tb : PWX → TSp} {ts : Addr → Value → Option Addr → TSp} (i : Nat) (hk : X.calm = true) (hs : X.stack = X.env :: X.outer) (hf : X.env.frame = some X.env.locals) (hN : X.N.Nodup)
    (hc : Names X x c)
    (hb : ∀ (H1 : Hp) (pw : PWX) (pn : List (Addr × Obj)) (xe : Value → Shared → Prop), Air (L2.CX X.prog X.w) (X.tr pn xe) H1 pw → PassesOwn (model X.prog X.w) X.A X.env xe → PSsp (X.tr pn xe) H1 body (tb pw))
    (hsu : ∀ (a : Addr) (oe : Obj) (cls : Value) (d : Option Addr) (pn : List (Addr × Obj)), Zc cls d oe → (∃ vs, oe.data = .fields vs) → PSsp (X.suite a ((a, oe) :: pn)) H0 (b₀ :: suite) (ts a cls d))
    (hi : X.N[i]? = some n := by rfl) (hln : X.env.kindOf n = some .local := by rfl) :
    PSp' X H0 (.Try body [.ExceptHandler (some (.Name x np)) (some n) (b₀ :: suite) pos'] [] [] pos) (tTryAs X.K i c tb ts) := by
  refine psW (L2.ps_try_as (tb := fun W D σ H => ∃ H1 pw, (∀ c d σ H, concW X.K H1 pw c d σ H → W c d σ H) ∧ concS X.K H1 (tb pw) D σ H) (ts := fun a cls d => concS X.K H0 (ts a cls d)) (Wout := fun _ _ _ _ => False) hs hf hN hi hln hc (fun u s' x => ?_) (fun W pn xe tk po => ⟨fun pins s σ H D I h => ?_⟩) (fun a oe cls d pn hz hv => hsu a oe cls d pn hz hv)) fun D σ H ⟨σp, M, Dp, t, s, m, u, k⟩ => ?_
  · obtain ⟨a, B, sI, pins, σ, H, cls, d, h⟩ := x
    exact h.2.2.2.2.2.2.2.2.elim
  · obtain ⟨H1, pw, imp, h⟩ := h
    exact (hb H1 pw pn xe (Air.z (X := X.tr pn xe) hk (tk.imp imp)) po).run pins s σ H D I h
  · refine ⟨H, _, ?_, σp, M, Dp, Tk.refl _ _, s, m, u, k⟩
    intro cls d σ1 H1 ⟨σp1, M1, t1, s1, m1, q1, q2⟩
    refine ⟨true, q1, fun _ a na => ?_, fun z => nomatch z⟩
    refine ⟨σp1.set i (some (.ref a)), M1, _, t.trans t1, s1.set (.ref a) i, m1, q2 a (m1.fresh na), ⟨fun σ2 H2 σp2 M2 t2 s2 m2 z => ?_, fun v H2 p M2 t2 => k.rt v H2 p M2 (t1.trans t2), fun σ2 H2 σp2 M2 t2 s2 m2 z => ?_, fun σ2 H2 σp2 M2 t2 s2 m2 z => ?_⟩⟩
    · exact k.nx _ _ _ _ (t1.trans t2) (s2.unset i) m2 z
    · exact k.bk _ _ _ _ (t1.trans t2) (s2.unset i) m2 z
    · exact k.ct _ _ _ _ (t1.trans t2) (s2.unset i) m2 z
/-! ### raise Y(..) from None -/
theorem pmk5_own {x m : Str} {C : Addr} {j : Nat} {p p2 pos : Pos} (O : Own X.K X.mg x C) (hg : Gl X x) (hdb : (x == ("__debug__" : Str)) = false) : L2H.PMk5 X (.Call (.Name x p) [.Constant (.str m) j p2] [] pos) (fun _ H Q => Q (.ref C) none H) := by
  intro pins s σ H Q I h
  refine wpAny_Call_Name_kw (ld_glob I hg O.g ?_ hdb)
  have ha : PA X [.Constant (.str m) j p2] (L2.tCons (L2.tC (.str m)) L2.tNil) := L2.pa_cons L2.pe_str L2.pa_nil
  refine PySem.W.callWith_K (h₀ := X.base) I.ok.mod.kin O.kp (thn (ha.run pos pins s σ H (fun vs H1 => vs = [V.str m] ∧ H = H1) I ⟨rfl, rfl⟩) fun us s1 hh => ?_)
  obtain ⟨vs, H1, I1, r1, ev, eH⟩ := hh
  subst ev
  rw [← eH] at I1
  refine ⟨I1.kIn, ?_⟩
  cases r1 with
  | cons ru rn =>
    rename_i u us'
    cases rn
    show wpAny _ _ (call (.ref C) [u]) _ _ _
    obtain ⟨bm, N, nm, qn, bs, hdct, sn, sub, ab, col, dd, k0, k1, k2, k3, k5, mN, hC, hN, hni, T⟩ := L2.exc_obj I1.kIn O.q
    refine wpAny_call_exc_subT PySem.F.excBase_ValueError T hC hN hni (fun h' e hm => ?_) (by show 1 ≤ sizeLine; rw [sizeLine_eq]; omega)
    exact L2H.mk_of5 I1 hm (L2.raises_own O.sb O.ty) h (I1.hok.gone hm.new)
@[reducible] def tTryRe (K : Kf) (c : Value) (C : Addr) (tb : PWX → TSp) (pw : PWX) : TSp := fun D σ M => tb (fun cls d σ' M' => PySem.W.exmOne K cls c = some true ∧ pw (.ref C) none σ' M') D σ M
theorem pstryre {x y msg : Str} {c : Value} {C : Addr} {body : List Stmt} {j j2 : Nat} {np pos pos' p1 p2 p3 p4 p5 : Pos} {tb : PWX → TSp} {pw : PWX} (hk : X.calm = true) (hs : X.stack = X.env :: X.outer) (hf : X.env.frame = some X.env.locals)
    (hpa : ∀ hd : Option Value, PassesOwnAt (model X.prog X.w) (X.A.mark hd) X.A X.env X.xe) (tk : L2.Takes X (concW X.K H0 pw)) (hc : Names X x c) (O : Own X.K X.mg y C)
    (hb : ∀ (H1 : Hp) (pw : PWX) (pn : List (Addr × Obj)) (xe : Value → Shared → Prop), Air (L2N.CX X.prog X.w) (X.tr pn xe) H1 pw → PassesOwn (model X.prog X.w) X.A X.env xe → PSsp (X.tr pn xe) H1 body (tb pw))
    (hg : Gl X y := by rfl) (hd : (y == ("__debug__" : Str)) = false := by decide) :
    PSp' X H0 (.Try body [.ExceptHandler (some (.Name x np)) none [.Raise (some (.Call (.Name y p1) [.Constant (.str msg) j p2] [] p3)) (some (.Constant .none j2 p4)) p5] pos'] [] [] pos) (tTryRe X.K c C tb pw) := by
  refine psW (L2H.ps_try_onlyX (tb := fun W D σ H => ∃ H1 pw, (∀ c d σ H, concW X.K H1 pw c d σ H → W c d σ H) ∧ concS X.K H1 (tb pw) D σ H) (ts := fun a cls d => fun _ σ H => concW X.K H0 pw (.ref C) none σ H) hs hf hc hpa tk (fun W pn xe tkn tkp po => ⟨fun pins s σ H D I h => ?_⟩) (fun a oe cls d pn hz hv tkS hot => ?_)) fun D σ H ⟨σp, M, Dp, t, s, m, u, k⟩ => ?_
  · obtain ⟨H1, pw, imp, h⟩ := h
    exact (hb H1 pw pn xe (Air.n (X := X.tr pn xe) hk (tkn.imp imp)) po).run pins s σ H D I h
  · exact L2.pss_one (L2H.ps_raiseHN hot tkS (pmk5_own (X := L2H.suiteX X a ((a, oe) :: pn)) O hg hd))
  · refine ⟨H, _, ?_, σp, M, Dp, Tk.refl _ _, s, m, u, k⟩
    intro cls d σ1 H1 ⟨σp1, M1, t1, s1, m1, q1, q2⟩
    exact ⟨true, q1, fun _ a na => ⟨σp1, M1, t.trans t1, s1, m1, q2⟩, fun z => nomatch z⟩
/-! ### isinstance of what was caught -/
inductive ClsPV : PV → Value → Prop
  | ref (a : Addr) : ClsPV (.ref a) (.ref a)
  | ty (n : String) : ClsPV (.ty n) (.type n)
inductive ClsPVs : List PV → List Value → Prop
  | nil : ClsPVs [] []
  | cons {p v ps vs} : ClsPV p v → ClsPVs ps vs → ClsPVs (p :: ps) (v :: vs)
theorem ClsPV.rep {K : Kf} {H : Hp} {p : PV} {c : Value} (h : ClsPV p c) {v : V} (r : Rep K H p v) : ∀ u, RelV v u → u = c := by
  cases h with
  | ref a => cases r; exact fun u z => z
  | ty n => cases r; exact fun u z => z
theorem ClsPVs.reps {K : Kf} {H : Hp} {ps : List PV} {cs : List Value} (h : ClsPVs ps cs) : ∀ {vs : List V}, Reps K H ps vs → ∀ {us : List Value}, Vals vs us → us = cs := by
  induction h with
  | nil => intro vs r us z; cases r; cases z; rfl
  | cons hc _ ih =>
    intro vs r us z
    cases r with
    | cons r1 rr =>
      cases z with
      | cons z1 zz => rw [hc.rep r1 _ z1, ih rr zz]
/-- isinstance(e, c) and isinstance(e, (c1, ..)), e the exception that the suite holds -/
def isExP (K : Kf) (a : Addr) (cls : Value) (d : Option Addr) : RCp := fun xs M Q => ∃ (D : Addr) (b : Bool), cls = .ref D ∧ d = none ∧ ExcC K D ∧ (match xs with
  | [.ref a', .tup cs] => a' = a ∧ ∃ us, ClsPVs cs us ∧ PySem.W.kitAny K (.ref D) us = some b
  | [.ref a', c] => a' = a ∧ ∃ u, ClsPV c u ∧ PySem.W.kitOne K (.ref D) u = some b
  | _ => False) ∧ Q (.bl b) M
def rIsEx (K : Kf) (D a : Addr) : List V → Hp → VK → Prop := fun xs H Q => ∃ (tp : Addr) (cs : List V) (us : List Value) (b : Bool), xs = [.ref a, .ref tp] ∧ SqT K H tp cs ∧ (∀ ws, Vals cs ws → ws = us) ∧ PySem.W.kitAny K (.ref D) us = some b ∧ Q (.bl b) H
theorem call_isEx {a D : Addr} {oe : Obj} {pn : List (Addr × Obj)} (C : ExcC X.K D) (hz : Zc (.ref D) none oe) (hf : ∃ vs, oe.data = .fields vs) : CallR (X.suite a ((a, oe) :: pn)) (.builtin "isinstance") (rIsEx X.K D a) := by
  rintro pins s σ H xs us Q I r ⟨tp, cs, ws, b, rfl, there, hcv, e, q⟩
  obtain ⟨ux, ut, rfl, rx, rt⟩ := vals2 r
  cases (show ut = Value.ref tp from rt)
  cases (show ux = Value.ref a from rx)
  obtain ⟨its, rv, ⟨⟨oc, od, dt, sl⟩, at_tp, hc, n, hd⟩, _⟩ := I.tuple there
  have e2 := hcv _ rv
  simp only at hc hd
  subst hc hd
  obtain ⟨hget, _⟩ := I.pin (a, oe) (List.mem_append.mpr (.inl List.mem_cons_self))
  obtain ⟨vs, hv⟩ := hf
  have J : PySem.W.InstAt s.heap a oe D none := by
    obtain ⟨oc, od, oda, osl⟩ := oe
    obtain ⟨h1, h2⟩ := hz
    dsimp only at h1 h2 hv
    subst h1 h2 hv
    exact ⟨hget, rfl, rfl, trivial⟩
  exact PySem.W.kia_tup (PySem.W.handS_kitx_exc C.hg C.hk C.hs C.hd C.ha C.hn C.ht C.hm) I.kIn J at_tp (by rw [e2]; exact e) (fun z => nomatch z) fun tk => ⟨.bl b, H, I.tok tk, rfl, q⟩
theorem cIsEx {a : Addr} {cls : Value} {d : Option Addr} {oe : Obj} {pn : List (Addr × Obj)} (hz : Zc cls d oe) (hf : ∃ vs, oe.data = .fields vs) : CallP (X.suite a ((a, oe) :: pn)) (.builtin "isinstance") (isExP X.K a cls d) := by
  refine ⟨fun xs H Q => ∃ D, cls = .ref D ∧ d = none ∧ ExcC X.K D ∧ (rIsE X.K D a xs H Q ∨ rIsEx X.K D a xs H Q), ?_, fun xs H ps M Q Qp rs m u k => ?_⟩
  · rintro pins s σ H xs us Q I r ⟨D, rfl, rfl, C, h | h⟩
    · exact L2.call_isE C hz hf pins s σ H xs us Q I r h
    · exact call_isEx C hz hf pins s σ H xs us Q I r h
  · obtain ⟨D, b, e1, e2, C, u, q⟩ := u
    refine ⟨D, e1, e2, C, ?_⟩
    have go : Q (.bl b) H := k _ _ _ _ (Tk.refl _ _) m (.bl _) q
    cases rs with
    | nil => exact u.elim
    | cons r rr => cases rr with
      | nil => cases r <;> exact u.elim
      | cons r2 rr2 => cases rr2 with
        | cons _ _ => cases r <;> cases r2 <;> exact u.elim
        | nil =>
          cases r with
          | ref a' =>
            cases r2 with
            | tup h r3 =>
              obtain ⟨rfl, us, h1, h2⟩ := u
              exact .inr ⟨_, _, us, b, rfl, h.t, fun ws z => h1.reps r3 z, h2, go⟩
            | ref c => obtain ⟨rfl, us, h1, h2⟩ := u; exact .inl ⟨_, us, b, rfl, h1.rep (K := X.K) (H := H) (.ref c), h2, go⟩
            | ty c => obtain ⟨rfl, us, h1, h2⟩ := u; exact .inl ⟨_, us, b, rfl, h1.rep (K := X.K) (H := H) (.ty c), h2, go⟩
            | non => obtain ⟨rfl, us, h1, h2⟩ := u; cases h1
            | bl c => obtain ⟨rfl, us, h1, h2⟩ := u; cases h1
            | int c => obtain ⟨rfl, us, h1, h2⟩ := u; cases h1
            | str c => obtain ⟨rfl, us, h1, h2⟩ := u; cases h1
          | _ => cases r2 <;> exact u.elim
theorem pglobC {x : Str} {C : Addr} {pos : Pos} (hg : Gl X x) (hm : X.mg x = some (.ref C)) (hd : (x == ("__debug__" : Str)) = false := by decide) : PEp X H0 (.Name x pos) (tc (.ref C)) := pglob hg hm (v := .ref C) rfl (fun _ => .ref C) hd
end
end PL

set_option Elab.async false
set_option linter.all false
set_option maxRecDepth 100000
set_option maxHeartbeats 4000000
/-! PL25: == and != of deep data, kept whole. -/
namespace PL
open PySem L2
theorem eqD_txt {K : Kf} {x y : PV} {M : PHp} {Q : Bool → Prop} (hx : TxtD 40 x) (hy : TxtD 40 y) (q : ∀ b, (b = true ↔ x = y) → Q b) : eqD K x y M Q :=
  eqD_fl hx.pure.dp hy.pure.dp ⟨hx.pure.plain, Nat.le_trans hx.pure.depth (by decide)⟩ ⟨hy.pure.plain, Nat.le_trans hy.pure.depth (by decide)⟩ (q _ (TxtD.eqv hx hy))
def eqDP (K : Kf) : R2p := fun x y M Q => TxtD 40 x ∧ TxtD 40 y ∧ ∀ b, (b = true ↔ x = y) → Q (.bl b) M
def neDP (K : Kf) : R2p := fun x y M Q => TxtD 40 x ∧ TxtD 40 y ∧ ∀ b, (b = true ↔ x ≠ y) → Q (.bl b) M
theorem eqDP_eq {K : Kf} {x y : PV} {M : PHp} {Q : PVK} (h : eqDP K x y M Q) : eqP K x y M Q := by
  obtain ⟨h1, h2, q⟩ := h
  unfold eqP
  split
  · exact q _ (by simp)
  · exact q _ (by simp)
  · exact q _ (by simp)
  · exact eqD_txt h1 h2 q
theorem neDP_ne {K : Kf} {x y : PV} {M : PHp} {Q : PVK} (h : neDP K x y M Q) : neP K x y M Q := by
  obtain ⟨h1, h2, q⟩ := h
  unfold neP
  split
  · exact q _ (by simp)
  · exact q _ (by simp)
  · exact q _ (by simp)
  · exact eqD_txt h1 h2 fun b hb => q _ (by cases b <;> simp_all)
section
variable {X : Cx} {K : Kf}
theorem opEqD (hu : X.A.units + 64 < cLine) (hK : X.K = K := by rfl) : OpP X (compareOp .Eq) (eqDP K) := by
  subst hK
  obtain ⟨r, h1, h2⟩ := opEq (X := X) hu
  exact ⟨r, h1, fun x y H px py M Q Qp rx ry m u k => h2 x y H px py M Q Qp rx ry m (eqDP_eq u) k⟩
theorem opNeD (hu : X.A.units + 64 < cLine) (hK : X.K = K := by rfl) : OpP X (compareOp .NotEq) (neDP K) := by
  subst hK
  obtain ⟨r, h1, h2⟩ := opNe (X := X) hu
  exact ⟨r, h1, fun x y H px py M Q Qp rx ry m u k => h2 x y H px py M Q Qp rx ry m (neDP_ne u) k⟩
end
end PL

set_option Elab.async false
set_option linter.all false
set_option maxRecDepth 100000
set_option maxHeartbeats 4000000
/-! PL26: x in a text; a module's own text. -/
namespace PL
open PySem L2
/-- i stands in j -/
def hasS (i j : Str) : Bool := !(Builtin.Str.occurrences j i 0 j.length 1).isEmpty
def inSP : R2p := fun x y M Q => match x, y with
  | .str i, .str j => Q (.bl (hasS i j)) M
  | _, _ => False
def notInSP : R2p := fun x y M Q => match x, y with
  | .str i, .str j => Q (.bl (!hasS i j)) M
  | _, _ => False
section
variable {X : Cx} {H0 : Hp}
theorem opInS : OpP X (compareOp .In) inSP := by
  refine ⟨_, op_in_str, fun x y H px py M Q Qp rx ry m u k => ?_⟩
  cases rx with
  | str i => cases ry with
    | str j => exact ⟨i, j, rfl, rfl, k _ _ _ _ (Tk.refl _ _) m (.bl _) u⟩
    | _ => exact u.elim
  | _ => cases ry <;> exact u.elim
theorem opNotInS : OpP X (compareOp .NotIn) notInSP := by
  refine ⟨_, op_notIn_str, fun x y H px py M Q Qp rx ry m u k => ?_⟩
  cases rx with
  | str i => cases ry with
    | str j => exact ⟨i, j, rfl, rfl, k _ _ _ _ (Tk.refl _ _) m (.bl _) u⟩
    | _ => exact u.elim
  | _ => cases ry <;> exact u.elim
theorem pglobS {x z : Str} {pos : Pos} (hg : Gl X x) (hm : ∃ t, X.mg x = some (.str z t)) (hd : (x == ("__debug__" : Str)) = false := by decide) : PEp X H0 (.Name x pos) (tc (.str z)) := by
  obtain ⟨t, hm⟩ := hm
  exact pglob hg hm (v := .str z) ⟨t, rfl⟩ (fun _ => .str z) hd
end
end PL

set_option Elab.async false
set_option linter.all false
set_option maxRecDepth 100000
set_option maxHeartbeats 4000000
/-! PL27: enumerate over a list or a tuple. -/
namespace PL
open PySem PySem.Spec L2 PyProof.Rows
set_option maxHeartbeats 4000000 in
theorem meets_enumB {v : Value} {o : Obj} {H : Heap → Prop} (B : Begins v o H) :
    Meets (Builtin.«enumerate.__new__» ⟨[.type "enumerate", v], []⟩) (fun _ R s => H s.heap ∧
      R (.ok (.ret (.ref (s.heap.push o).objs.size))) { s with heap := (s.heap.push o).push { cls := .type "enumerate", data := .fields #[.none, .bool false, .ref s.heap.objs.size, rawInt 0, .none, .none] } }) :=
  .of_wp fun prog w A R s h => by
    obtain ⟨hp, g, d, tk, os⟩ := s; obtain ⟨h1, h⟩ := h
    have hsub := sub_enumerate
    have q1 : ∀ {A' : Around} {E : Value → Shared → Prop} {Q : Value → Shared → Prop}, Q (.ref hp.objs.size) ⟨hp.push o, g, d, tk, os⟩ → wpAny (model prog w) A' (pyIter v) Q E ⟨hp, g, d, tk, os⟩ :=
      fun q => B.iter prog w _ _ ⟨hp, g, d, tk, os⟩ _ h1 q
    wp_walk using q1
    refine wpAny_stack_any fun st => wpAny_pure ?_
    split
    · rename_i c _ _ _ _ _
      cases (c == Value.type "enumerate")
      · wp_walk using q1
        exact ⟨_, rfl, h⟩
      · wp_walk using q1
        exact ⟨_, rfl, h⟩
    · wp_walk using q1
      exact ⟨_, rfl, h⟩
section
variable {prog : Program} {w : World} {A : Around} {E : Value → Shared → Prop} {s : Shared}
theorem call_enumB {v : Value} {o : Obj} {H : Heap → Prop} {Q : Value → Shared → Prop} (B : Begins v o H) (h1 : H s.heap)
    (h : ∀ h', IsEnum h' (s.heap.objs.size + 1) s.heap.objs.size 0 .none → h'.get? s.heap.objs.size = some o → h'.objs.size = s.heap.objs.size + 2 →
      (∀ b o, s.heap.get? b = some o → h'.get? b = some o) → Q (.ref (s.heap.objs.size + 1)) { s with heap := h' }) :
    wpAny (model prog w) A (call (.type "enumerate") [v]) Q E s := by
  refine callType_new F.called_enumerate (by decide) (F.typeCall_enumerate_1 _) (F.newCall_enumerate_1 _) (fun obj => F.args_object_init_2 obj _) F.entry_enumerate_new
    (meets_enumB B) ⟨h1, ?_⟩
  have hz : (s.heap.push o).objs.size = s.heap.objs.size + 1 := Heap.size_push ..
  show _ ∧ _
  rw [hz]
  have he : IsEnum ((s.heap.push o).push
      { cls := .type "enumerate", data := .fields #[.none, .bool false, .ref s.heap.objs.size, rawInt 0, .none, .none] }) (s.heap.objs.size + 1) s.heap.objs.size 0 .none := by
    have := Heap.get?_push_size (s.heap.push o)
      (o := { cls := .type "enumerate", data := .fields #[.none, .bool false, .ref s.heap.objs.size, rawInt 0, .none, .none] }) rfl
    rw [hz] at this; exact this
  refine ⟨⟨_, he, rfl⟩, h _ he (Heap.get?_push_of_some _ (Heap.get?_push_size _ B.free)) (by rw [Heap.size_push, hz]) fun b o x => Heap.get?_push_of_some _ (Heap.get?_push_of_some _ x)⟩
end
section
variable {K : Kf} {X : Cx} {H0 : Hp} {pos : Pos}
/-- the places that are walked: a list or a tuple -/
def enumIt (Sq : Hp → List V → Prop) : It :=
  ⟨fun i H => ∃ (xs : List V) (x : V), Sq H xs ∧ xs[i]? = some x,
    fun i H v H' => ∃ (T : Addr) (ob : Obj) (x : V), v = .ref T ∧ H T = none ∧ ob.dict = none ∧ H' = upd H T (.frz ob (.tup [.int (i : Nat), x])) ∧ ∀ xs, Sq H xs → xs[i]? = some x,
    fun i H => ∃ xs : List V, Sq H xs ∧ xs.length = i⟩
theorem turn_en {P : Program} {w : World} {elts : List Expr} {kk : Nat} {tpos : Pos} {a e it : Addr} {Sq : Hp → List V → Prop} {Si : Nat → Heap → Prop} {Sa : Array Value → Heap → Prop} (hne : e ≠ it)
    (hio : ∀ i h, Si i h → ∃ o, h.get? it = some o ∧ ∀ v, o.data ≠ .cell v) (hik : ∀ i h h', Si i h → (∀ o, h.get? it = some o → h'.get? it = some o) → Si i h')
    (hread : ∀ {X : Cx} {pins : List (Addr × Obj)} {σ : L2.St} {H : Hp} {s : Shared} {xs : List V}, X.K = K → Inv X pins σ H s → Sq H xs → ∃ its : List Value, Vals xs its ∧ Sa its.toArray s.heap ∧ ∀ ys, Sq H ys → ys = xs)
    (hD : ∀ (A : Around) (items : Array Value), A.handled = none → Draws P w A it [it, a] items.size (fun i v => items[i]? = some v) (fun i h => Si i h ∧ Sa items h)) (hea : ∀ its h o, Sa its h → h.get? e = some o → o.cls = .type "enumerate" → e ≠ a) :
    Turn P w K (.Tuple elts kk tpos) (enumIt Sq) [e, it] e (fun i h => (∃ old, IsEnum h e it ((i : Nat) : Int) old) ∧ Si i h) where
  mem := by simp
  obj := fun i h st b hb => by
    obtain ⟨⟨old, he⟩, hi⟩ := st
    have e' : b = e ∨ b = it := by simpa using hb
    rcases e' with z | z
    · rw [z]; exact ⟨_, he, fun v q => nomatch q⟩
    · rw [z]; exact hio i h hi
  keep := fun i h h' st k => let ⟨⟨old, he⟩, hi⟩ := st; ⟨⟨old, k e (by simp) _ he⟩, hik i h h' hi fun o q => k it (by simp) o q⟩
  item := by
    intro X hP hw hK hc i pins s σ H E I hf st hg
    subst hP hw
    obtain ⟨⟨old, he⟩, hit⟩ := st
    obtain ⟨xs, x, hq, hx⟩ := hg
    obtain ⟨its, rv, p, inj⟩ := hread hK I hq
    obtain ⟨u, hu, ru⟩ := rv.get hx
    have hel : e < s.heap.objs.size := Heap.lt_size he
    have hil : it < s.heap.objs.size := by obtain ⟨_, q, _⟩ := hio _ _ hit; exact Heap.lt_size q
    have hil2 : i < its.toArray.size := by have := (List.getElem?_eq_some_iff.mp hu).1; simpa using this
    have hea' := hea _ _ _ p he rfl
    refine wpAny_pyNext_enum_itemC (hD X.A.in1 its.toArray (I.ok.hd hc)) he ⟨hit, p⟩ hil2 hne (by simp [hne, hea']) fun x' h' tk hx' ho hit' hT hsz hk => ?_
    have ex : x' = u := by
      have h2 : its[i]? = some x' := by simpa using hx'
      rw [hu] at h2; exact (Option.some.inj h2).symm
    subst ex
    refine ⟨_, rfl, wpAny_letOwnedTupleGo_enum (s := { s with heap := h', toks := tk + 1 }) ho fun h'' he' sb => ?_⟩
    have there : h''.get? s.heap.objs.size = some { cls := .type "tuple", data := .seq #[.int i tk, x'] } := (sb.2 _ (Nat.ne_of_gt hel)).trans hT
    refine ⟨.ref s.heap.objs.size, _, I.turnedNew (t' := tk + 1) (ch := [e, it]) (fun b ob hb q => (sb.2 b (fun z => hb (by simp [z]))).trans (hk b ob (fun z => hb (by simp [z])) (fun z => hb (by simp [z])) q)) hf (Nat.le_refl _) (pair_ok (x := .int (i : Nat)) there ⟨tk, rfl⟩ ru), rfl,
      ⟨_, _, x, rfl, I.hok.fresh (Nat.le_refl _), rfl, rfl, fun ys hy => by rw [inj ys hy]; exact hx⟩, ⟨⟨x', ?_⟩, hik _ _ _ hit'.1 fun o q => (sb.2 it (Ne.symm hne)).trans q⟩, fp_pair hf fun c hc => ?_⟩
    · have e1 : ((i + 1 : Nat) : Int) = (i : Int) + 1 := by omega
      rw [e1]; exact he'
    · have e' : c = e ∨ c = it := by simpa using hc
      rcases e' with z | z
      · rw [z]; exact hel
      · rw [z]; exact hil
  done := by
    intro X hP hw hK hc i pins s σ H E I hf st hg
    subst hP hw
    obtain ⟨⟨old, he⟩, hit⟩ := st
    obtain ⟨xs, hq, hx⟩ := hg
    obtain ⟨its, rv, p, inj⟩ := hread hK I hq
    obtain ⟨f0, f1, f2, f3, f4, f5⟩ := hf it (by simp)
    have hl := rv.length
    have e1 : its.toArray.size = i := by simp only [List.size_toArray]; omega
    refine wpAny_pyNext_enum_endD (hD X.A.in1 its.toArray (I.ok.hd hc)) he (by rw [e1]; exact ⟨hit, p⟩) fun h' eb => ⟨rfl, I.turned (t' := s.toks) (fun b o hb q => eb b o hb q) f0 f1 f3 f4 f5⟩
  self := fun A i s Q E st h => let ⟨⟨_, he⟩, _⟩ := st; wpAny_pyIter_enum he h
def iEnX (K : PySem.W.Frag) (ta : TA) : TI := fun σ H R => ta σ H fun vs H1 => ∃ a xs, vs = [.ref a] ∧ ((SqL K H1 a xs ∧ R (enumIt fun H => SqL K H a) H1) ∨ (SqT K H1 a xs ∧ R (enumIt fun H => SqT K H a) H1))
theorem two_fp {pins : List (Addr × Obj)} {σ : L2.St} {H : Hp} {s : Shared} (I : Inv X pins σ H s) : ∀ c, c ∈ [s.heap.objs.size + 1, s.heap.objs.size] → FpOk X pins H c := fun c hc => by
  have hle : s.heap.objs.size ≤ c := by
    simp only [List.mem_cons, List.not_mem_nil, or_false] at hc
    omega
  exact I.fpOk hle (I.hok.fresh hle)
theorem pi_enX {e : Expr} {ta : TA} {p tpos : Pos} {elts : List Expr} {kk : Nat} (hg : Gl X "enumerate") (hm : X.mg "enumerate" = none) (ha : PA X [e] ta) (hs : starEach [e] X.env = [(false, eval e X.env)] := by rfl) :
    PI X (.Tuple elts kk tpos) (.Call (.Name "enumerate" p) [e] [] pos) (iEnX X.K ta) := by
  refine ⟨fun pins s σ H R I h => ?_⟩
  refine Call_ (ld_blt I hg hm PyProof.Rows.boot_enumerate (PyProof.Rows.callWith_type1 (thn (ha.run pos pins s σ H _ I h) fun us s1 ⟨vs, H1, I1, r1, q1⟩ => ?_) hs rfl))
  obtain ⟨a, xs, ex, q1⟩ := q1
  subst ex
  cases r1 with
  | cons r rr =>
    cases rr
    cases r
    rcases q1 with ⟨hq, q⟩ | ⟨hq, q⟩
    · obtain ⟨its, rv, p', hz⟩ := I1.list hq
      refine call_enumB (begins_list a its.toArray) p'.isList fun h' he hit hsz hk => wpAny_pyIter_enum he ?_
      refine ⟨s1.heap.objs.size + 1, [s1.heap.objs.size + 1, s1.heap.objs.size], _, _, H1, rfl, I1.kept (t' := s1.toks) hk,
        turn_en (a := a) (Si := fun i h => h.IsListIter s1.heap.objs.size a i) (Sa := fun its h => h.IsList a its) (Nat.succ_ne_self _) (fun i h x => ?_) (fun i h h' x k => x.at fun o e => k o e) (fun {X pins σ H s xs} hK I hq => ?_) (fun A items hh => Draws.list hh _ _ (Nat.ne_of_lt p'.lt) items) (fun its h o x e hc z => ?_), ⟨⟨.none, he⟩, ⟨_, hit, rfl, rfl⟩⟩, two_fp I1, q⟩
      · obtain ⟨o, ho, hc, hd⟩ := x
        exact ⟨o, ho, fun v q => by rw [hd] at q; cases q⟩
      · rw [← hK] at hq ⊢
        obtain ⟨its, rv, p', _⟩ := I.list hq
        exact ⟨its, rv, p'.isList, fun ys hy => I.list_inj hy hq⟩
      · obtain ⟨o2, e2, c2, _⟩ := x
        subst z
        have e3 := Option.some.inj (e.symm.trans e2)
        subst e3
        exact absurd (Value.type.inj (c2.symm.trans hc)) (by decide)
    · obtain ⟨its, rv, p', hz⟩ := I1.tuple hq
      have hlt : a < s1.heap.objs.size := by obtain ⟨_, g, _⟩ := id p'; exact Heap.lt_size g
      refine call_enumB (begins_tuple a its.toArray) p' fun h' he hit hsz hk => wpAny_pyIter_enum he ?_
      refine ⟨s1.heap.objs.size + 1, [s1.heap.objs.size + 1, s1.heap.objs.size], _, _, H1, rfl, I1.kept (t' := s1.toks) hk,
        turn_en (a := a) (Si := fun i h => h.IsTupleIter s1.heap.objs.size a i) (Sa := fun its h => h.IsTuple a its) (Nat.succ_ne_self _) (fun i h x => ?_) (fun i h h' x k => x.at fun o e => k o e) (fun {X pins σ H s xs} hK I hq => ?_) (fun A items hh => Draws.tuple hh _ _ (Nat.ne_of_lt hlt) items) (fun its h o x e hc z => ?_), ⟨⟨.none, he⟩, ⟨_, hit, rfl, rfl⟩⟩, two_fp I1, q⟩
      · obtain ⟨o, ho, hc, hd⟩ := x
        exact ⟨o, ho, fun v q => by rw [hd] at q; cases q⟩
      · rw [← hK] at hq ⊢
        obtain ⟨its, rv, p', _⟩ := I.tuple hq
        exact ⟨its, rv, p', fun ys hy => I.tuple_inj hy hq⟩
      · obtain ⟨o2, e2, c2, _⟩ := x
        subst z
        have e3 := Option.some.inj (e.symm.trans e2)
        subst e3
        exact absurd (Value.type.inj (c2.symm.trans hc)) (by decide)
/-- 0, x0; 1, x1; .. -/
def enP (l : List PV) : List PV := (List.range l.length).map fun i => .tup [.int (i : Nat), l.getD i .non]
theorem enP_len {l : List PV} : (enP l).length = l.length := by unfold enP; rw [List.length_map, List.length_range]
theorem enP_of {l : List PV} {i : Nat} {x : PV} (h : l[i]? = some x) : (enP l)[i]? = some (.tup [.int (i : Nat), x]) := by
  unfold enP
  rw [List.getElem?_map, List.getElem?_range (List.getElem?_eq_some_iff.mp h).1, Option.map_some, List.getD_eq_getElem?_getD, h]; rfl
theorem enP_get {l : List PV} {i : Nat} {p : PV} (h : (enP l)[i]? = some p) : ∃ x, l[i]? = some x ∧ p = .tup [.int (i : Nat), x] := by
  have hi : i < l.length := by have := (List.getElem?_eq_some_iff.mp h).1; rwa [enP_len] at this
  have e := enP_of (List.getElem?_eq_getElem hi)
  rw [h] at e
  exact ⟨_, List.getElem?_eq_getElem hi, Option.some.inj e⟩
theorem itr_el {H1 : Hp} {a : Addr} {l : List PV} : ItR K H1 (enumIt fun H => SqL K H a) (enP l) (fun M => rdL K M a l) where
  go := fun i H M t m k hi => by
    obtain ⟨vs, e, r⟩ := k.to m
    rw [enP_len] at hi
    have h1 : i < vs.length := by rw [← r.length]; omega
    exact ⟨vs, vs[i], e, by simp [h1]⟩
  yld := fun i H M x H' t m k hi y => by
    obtain ⟨T, ob, u, rfl, hT, hd, rfl, g1⟩ := y
    obtain ⟨vs, e, r⟩ := k.to m
    rw [enP_len] at hi
    obtain ⟨v1, q1, p1⟩ := r.get (List.getElem?_eq_getElem hi)
    have q3 := g1 vs e
    rw [q1] at q3; cases q3
    exact ⟨_, enP_of (List.getElem?_eq_getElem hi), pair_rep hT hd (.int _) p1⟩
  stop := fun H M t m k => by
    obtain ⟨vs, e, r⟩ := k.to m
    exact ⟨vs, e, by rw [enP_len, r.length]⟩
theorem itr_et {H1 : Hp} {a : Addr} {l : List PV} {vs : List V} (h : SqX K H1 a vs) (r : Reps K H1 l vs) : ItR K H1 (enumIt fun H => SqT K H a) (enP l) (fun _ => True) where
  go := fun i H M t m k hi => by
    rw [enP_len] at hi
    have h1 : i < vs.length := by rw [← r.length]; omega
    exact ⟨vs, vs[i], (t _ _ h).t, by simp [h1]⟩
  yld := fun i H M x H' t m k hi y => by
    obtain ⟨T, ob, u, rfl, hT, hd, rfl, g1⟩ := y
    rw [enP_len] at hi
    obtain ⟨v1, q1, p1⟩ := (r.mono t).get (List.getElem?_eq_getElem hi)
    have q3 := g1 vs (t _ _ h).t
    rw [q1] at q3; cases q3
    exact ⟨_, enP_of (List.getElem?_eq_getElem hi), pair_rep hT hd (.int _) p1⟩
  stop := fun H M t m k => ⟨vs, (t _ _ h).t, by rw [enP_len, r.length]⟩
@[reducible] def iEnP (K : Kf) (ta : TAp) : TIp := fun σ M R => ta σ M fun vs M1 => match vs with
  | [.tup l] => R (enP l) (fun _ => True) M1
  | [.ref a] => ∃ l, rdL K M1 a l ∧ R (enP l) (fun M => rdL K M a l) M1
  | _ => False
theorem pienumerate {e : Expr} {ta : TAp} {p tpos : Pos} {elts : List Expr} {kk : Nat} (hg : Gl X "enumerate") (hm : X.mg "enumerate" = none) (ha : PAp X H0 [e] ta) (hs : starEach [e] X.env = [(false, eval e X.env)] := by rfl) :
    PIp' X H0 (.Tuple elts kk tpos) (.Call (.Name "enumerate" p) [e] [] pos) (iEnP X.K ta) :=
  piW (pi_enX hg hm ha hs) fun σ H R ⟨σp, M, Rp, t, s, m, u, k⟩ => ⟨σp, M, _, t, s, m, u, fun vs H1 ps M1 t1 m1 rs u1 => by
    cases rs with
    | nil => exact u1.elim
    | cons r rr => cases rr with
      | cons _ _ => cases r <;> exact u1.elim
      | nil => cases r with
        | tup h q => exact ⟨_, _, rfl, .inr ⟨h.t, k _ _ _ _ _ t1 m1 (itr_et h q) u1⟩⟩
        | ref a =>
          obtain ⟨l, h1, u1⟩ := u1
          obtain ⟨vs, e, _⟩ := h1.to m1
          exact ⟨_, _, rfl, .inl ⟨e, k _ _ _ _ _ t1 m1 itr_el u1⟩⟩
        | _ => exact u1.elim⟩
end
end PL

set_option Elab.async false
set_option linter.all false
set_option maxRecDepth 100000
set_option maxHeartbeats 4000000
/-! PL28: a, b, .. = a list. -/
namespace PL
open PySem L2
section
variable {X : Cx} {H0 : Hp} {es : List Expr} {pos : Pos}
@[reducible] def gUnlP (K : Kf) (n : Nat) (g : TGsp) : TGp := fun v σ M Q => match v with | .ref a => ∃ l, rdL K M a l ∧ (l.length = n ∧ g l σ M Q) | _ => False
theorem pgunl {gs : TGsp} {j : Nat} {n : Nat} (hc : X.calm = true) (h : PGsp X H0 es gs) (hn : (assignEach es X.env).length = n := by rfl) (hst : (assignEach es X.env).findIdx? (·.1) = none := by rfl) : PGp X H0 (.Tuple es j pos) (gUnlP X.K n gs) :=
  pgW (pg_lst hc h hn hst) fun v σ H Q ⟨p, σp, M, Qp, t, r, s, m, u, k⟩ => by
    cases r with
    | ref a =>
      obtain ⟨l, h1, h2, h3⟩ := u
      obtain ⟨vs, q1, q2⟩ := h1.to m
      exact ⟨a, vs, rfl, q1, by rw [← q2.length]; exact h2, _, σp, M, Qp, t, q2, s, m, h3, k⟩
    | _ => exact u.elim
end
theorem CalleeR.neverz {P : Program} {w : World} {K : Kf} {mg : Str → Option Value} {base : Heap} {k : Nat} {x : Str} {st : Stmt} {N ps : List Str} (h : Here K mg x st ps) (S : FnScope N ps (defScope st)) : CalleeR (L2.CX P w) P w K mg base (k + 1) x ps (fun _ _ _ _ => False) :=
  okR_z h S (fun _ _ _ _ z => z.elim) fun f cdv A outer s H E Ep hr air tk own => ⟨_, pssdead, fun _ _ _ z => z.elim⟩
theorem CalleeR.nevern {P : Program} {w : World} {K : Kf} {mg : Str → Option Value} {base : Heap} {k : Nat} {x : Str} {st : Stmt} {N ps : List Str} (h : Here K mg x st ps) (S : FnScope N ps (defScope st)) : CalleeR (L2N.CX P w) P w K mg base (k + 1) x ps (fun _ _ _ _ => False) :=
  okR_n h S (fun _ _ _ _ z => z.elim) fun f cdv A outer s H E Ep hr air own => ⟨_, pssdead, fun _ _ _ z => z.elim⟩
end PL

set_option Elab.async false
set_option linter.all false
set_option maxRecDepth 100000
set_option maxHeartbeats 4000000
/-! PL29: a tuple among the items of a tuple. -/
namespace PL
open PySem PySem.Spec L2 PyProof.Rows
section
variable {K : Kf} {X : Cx} {H0 : Hp} {pos : Pos}
def rInFT (K : Kf) (neg : Bool) : R2 := fun x y H Q => ∃ d ds, Dp K H x d ∧ Dp K H y (.tuple ds) ∧ (d.plain = true ∧ d.depth ≤ 40) ∧ PyData.plainAll ds = true ∧ Q (.bl (if neg then !(ds.any fun z => PyData.eqv z d) else ds.any fun z => PyData.eqv z d)) H
theorem op_inFT (hu : X.A.units + 64 < cLine) : OpR X (compareOp .In) (rInFT X.K false) := fun pins s σ H x y v u Q I rx ry ⟨d, ds, hd, he, pd, pe, q⟩ => by
  obtain ⟨as, r1⟩ := Dp.reads I d x v hd rx
  obtain ⟨bs, r2⟩ := Dp.reads I (.tuple ds) y u he ry
  have hm := Nat.min_le_right (PyData.depthAll ds) d.depth
  exact SeqAt.in_tuple_data r2 r1 pe pd.1 (by have := pd.2; omega) ⟨.bl _, H, I, rfl, q⟩
theorem op_notInFT (hu : X.A.units + 64 < cLine) : OpR X (compareOp .NotIn) (rInFT X.K true) := fun pins s σ H x y v u Q I rx ry ⟨d, ds, hd, he, pd, pe, q⟩ => by
  obtain ⟨as, r1⟩ := Dp.reads I d x v hd rx
  obtain ⟨bs, r2⟩ := Dp.reads I (.tuple ds) y u he ry
  have hm := Nat.min_le_right (PyData.depthAll ds) d.depth
  exact SeqAt.notIn_tuple_data r2 r1 pe pd.1 (by have := pd.2; omega) ⟨.bl _, H, I, rfl, q⟩
def inDTP (K : Kf) (neg : Bool) : R2p := fun x y M Q => match y with
  | .tup l => l.length ≤ 16777216 ∧ TxtD 40 x ∧ (∀ z ∈ l, TxtD 40 z) ∧ ∀ b, (b = true ↔ x ∈ l) → Q (.bl (if neg then !b else b)) M
  | _ => False
theorem inDT_sim {neg : Bool} : SimR K (rInFT K neg) (inDTP K neg) := fun x y H px py M Q Qp rx ry m u k => by
  cases py with
  | tup l =>
    obtain ⟨h, hx, hl, q⟩ := u
    have ht : TxtD 41 (.tup l) := .tup h hl
    exact ⟨toD px, toDs l, hx.pure.dp.to m rx, ht.pure.dp.to m ry, ⟨hx.pure.plain, hx.pure.depth⟩, plain_all fun z hz => (hl z hz).pure, k _ _ _ _ (Tk.refl _ _) m (.bl _) (q _ (any_txt hx hl))⟩
  | _ => exact u.elim
theorem opInDT (hu : X.A.units + 64 < cLine) (hK : X.K = K := by rfl) : OpP X (compareOp .In) (inDTP K false) := hK ▸ ⟨_, op_inFT hu, inDT_sim⟩
theorem opNotInDT (hu : X.A.units + 64 < cLine) (hK : X.K = K := by rfl) : OpP X (compareOp .NotIn) (inDTP K true) := hK ▸ ⟨_, op_notInFT hu, inDT_sim⟩
end
end PL

set_option Elab.async false
set_option linter.all false
set_option maxRecDepth 100000
set_option maxHeartbeats 4000000
/-! PL30: match on a tuple: case [text, name, ..]; case _. -/
namespace L2
open PySem PySem.Spec PyProof.Rows
/-- what the cases do with the subject's value -/
abbrev TMc := V → TS
structure PMs (X : Cx) (cs : List MatchCase) (t : TMc) : Prop where
  run : ∀ (first : Bool) (pins : List (Addr × Obj)) (s : Shared) (σ : St) (H : Hp) (D : Ends) (v : V) (u : Value), Inv X pins σ H s → RelV v u → t v D σ H → wpAny (model X.prog X.w) X.A (matchCases cs X.env u first) (SP X pins D) X.xe s
theorem unpackItems_tup {prog : Program} {w : World} {A : Around} {E : Value → Shared → Prop} {s : Shared} {t : Addr} {items : List Value} {n : Nat} {Q : List Value → Shared → Prop} (hh : A.handled = none) (ht : IsTup s.heap t items.toArray) (hn : n = items.length)
    (hQ : ∀ h', Heap.ExtBut s.heap.objs.size s.heap h' → Q items { s with heap := h' }) : wpAny (model prog w) A (unpackItems (.ref t) n none) Q E s := by
  have e : n = items.toArray.size := by simpa using hn
  rw [e]
  exact unpackItems_tuple hh ht fun h' q => by simpa using hQ h' q
section
variable {X : Cx} {te : TE} {tb : TS} {tr : TMc}
theorem ps_match {e : Expr} {cs : List MatchCase} {pos : Pos} (he : PE X e te) (h : PMs X cs tr) : PS X (.Match e cs pos) (fun D σ H => te σ H fun v H1 => tr v D σ H1) := by
  refine ⟨fun pins s σ H D I q => ?_⟩
  exact wpAny_Match (thn (he.run pins s σ H _ I q) fun v s1 ⟨x, H1, I1, r1, q1⟩ => h.run true pins s1 σ H1 D x v I1 r1 q1)
theorem pms_wild {body : List Stmt} {rest : List MatchCase} {p : Pos} (hb : PSs X body tb) : PMs X (⟨.MatchAs none none p, none, body⟩ :: rest) (fun _ => tb) := by
  refine ⟨fun first pins s σ H D v u I r q => ?_⟩
  exact wpAny_matchCases_cons (wpAny_matchPattern_Capture (wpAny_assignInOrder_none (hb.run pins s σ H D I q)))
/-- the names that a sequence pattern binds -/
inductive Caps (X : Cx) : List Pattern → List Str → List Nat → Prop
  | nil : Caps X [] [] []
  | cons {ps ns is} {x : Str} {i : Nat} {p : Pos} (hN : X.N.Nodup) (hi : X.N[i]? = some x) (hx : Loc X.env.scope x) (hf : X.fn x = true ∨ X.env.scope.names.lookup x = some .local) (t : Caps X ps ns is) : Caps X (.MatchAs none (some x) p :: ps) (x :: ns) (i :: is)
def setAll : St → List Nat → List V → St
  | σ, i :: is, v :: vs => setAll (σ.set i (some v)) is vs
  | σ, _, _ => σ
theorem Caps.len {ps ns is} (h : Caps X ps ns is) : ps.length = is.length := by
  induction h with
  | nil => rfl
  | cons _ _ _ _ _ ih => simp [ih]
theorem Caps.star {ps ns is} (h : Caps X ps ns is) : ps.findIdx? (·.isStar) = none := by
  induction h with
  | nil => rfl
  | cons _ _ _ _ _ ih => rw [List.findIdx?_cons, ih]; rfl
theorem Caps.each {M : Model} {A : Around} {E : Value → Shared → Prop} {env : Env} {s : Shared} {ps ns is} (h : Caps X ps ns is) : ∀ {us : List Value} {Q : Option (List (Str × Value)) → Shared → Prop}, us.length = ps.length → Q (some (ns.zip us)) s → wpAny M A (matchEach ps env us) Q E s := by
  induction h with
  | nil =>
    intro us Q hl q
    cases us with
    | nil => exact wpAny_matchEach_nil q
    | cons _ _ => cases hl
  | cons hN hi hx hf t ih =>
    intro us Q hl q
    cases us with
    | nil => cases hl
    | cons u us => exact wpAny_matchEach_cons (wpAny_matchPattern_Capture (ih (by simpa using hl) q))
theorem Caps.bind {pins : List (Addr × Obj)} {H : Hp} {ps ns is} (h : Caps X ps ns is) : ∀ {s : Shared} {σ : St} {vs : List V} {us : List Value} {Q : Unit → Shared → Prop}, Inv X pins σ H s → Vals vs us → us.length = ps.length → (∀ s', Inv X pins (setAll σ is vs) H s' → Q () s') →
    wpAny (model X.prog X.w) X.A (assignInOrder ((ns.zip us).map fun (n, _) => bindName X.env n) ((ns.zip us).map (·.2))) Q X.xe s := by
  induction h with
  | nil =>
    intro s σ vs us Q I r hl q
    exact wpAny_assignInOrder_none (q s (by simpa [setAll] using I))
  | cons hN hi hx hf t ih =>
    intro s σ vs us Q I r hl q
    cases r with
    | nil => cases hl
    | cons r rr => exact wpAny_assignInOrder_more (wpAny_bindName (store_ok I hN hi hx r (fun s' I' => ih I' rr (by simpa using hl) q) hf))
def tSeqC (K : PySem.W.Frag) (c : Str) (is : List Nat) (tb : TS) (tr : TMc) : TMc := fun v D σ H => ∃ a xs, v = .ref a ∧ SqT K H a xs ∧
  (xs.length = is.length + 1 → ∃ x ys, xs = .str x :: ys ∧ (x = c → tb D (setAll σ is ys) H) ∧ (x ≠ c → tr v D σ H)) ∧ (xs.length ≠ is.length + 1 → tr v D σ H)
theorem pms_seq {c : Str} {k : Nat} {p1 p2 p3 : Pos} {ps : List Pattern} {ns : List Str} {is : List Nat} {body : List Stmt} {rest : List MatchCase} (hc : X.calm = true) (h : Caps X ps ns is) (hb : PSs X body tb) (hr : PMs X rest tr) :
    PMs X (⟨.MatchSequence (.MatchValue (.Constant (.str c) k p1) p2 :: ps) p3, none, body⟩ :: rest) (tSeqC X.K c is tb tr) := by
  refine ⟨fun first pins s σ H D v u I r q => ?_⟩
  obtain ⟨a, xs, e1, hq, qy, qn⟩ := q
  subst e1
  cases r
  obtain ⟨its, rv, ht, hz⟩ := I.tuple hq
  have hl : its.length = xs.length := rv.length.symm
  have hfit : ((its.toArray.size : Nat) : Int) < 2 ^ 63 := by
    have : its.toArray.size = its.length := by simp
    have := (show sizeLine = 16777216 by decide)
    omega
  refine wpAny_matchCases_cons ?_
  by_cases hn : xs.length = is.length + 1
  · obtain ⟨x, ys, e2, y1, y2⟩ := qy hn
    subst e2
    refine matchSeq_tuple_hit ht hfit (by simp [h.len, hl, hn]) ?_ (by rw [List.findIdx?_cons, h.star]; rfl) (by rfl)
    refine unpackItems_tup (I.ok.hd hc) ht (by simp [h.len, hl, hn]) fun h' hx => ?_
    have I1 : Inv X pins σ H { s with heap := h', toks := s.toks + 1 + 1 } := I.kept fun b o e => hx b o (Nat.ne_of_lt (Heap.lt_size e)) e
    cases rv with
    | cons r rr =>
      obtain ⟨t, e3⟩ := r
      subst e3
      have hl2 := rr.length
      simp only [List.length_cons] at hn hl
      refine wpAny_matchEach_cons (wpAny_matchPattern_Value (Calls.Constant_str (eq_str (wpAny_truthy_bool ?_))))
      by_cases e : x = c
      · subst e
        simp only [beq_self_eq_true, if_true]
        refine h.each (by rw [h.len]; omega) ?_
        refine h.bind (I1.tok _) rr (by rw [h.len]; omega) fun s' I2 => hb.run pins s' _ H D I2 (y1 rfl)
      · rw [beq_eq_false_iff_ne.mpr e]
        exact hr.run false pins _ σ H D (.ref a) (.ref a) (I1.tok _) rfl (y2 e)
  · exact matchSeq_tuple_miss ht hfit (by simp [h.len, hl, hn]) (hr.run false pins _ σ H D (.ref a) (.ref a) (I.tok _) rfl (qn hn)) (by rw [List.findIdx?_cons, h.star]; rfl) (by rfl)
end
end L2
namespace PL
open PySem L2
section
variable {X : Cx} {H0 : Hp} {te : TEp} {tb : TSp} {tr : PV → TSp}
abbrev TMp := PV → TSp
def concM (K : Kf) (H0 : Hp) (t : TMp) : TMc := fun v D σ H => ∃ p σp M Dp, Tk K H0 H ∧ Rep K H p v ∧ RelS K H σp σ ∧ RelM K H M ∧ t p Dp σp M ∧ EndsRel K H D Dp
abbrev PMp (X : Cx) (H0 : Hp) (cs : List MatchCase) (t : TMp) : Prop := PMs X cs (concM X.K H0 t)
theorem pmW {cs : List MatchCase} {t t' : TMc} (h : PMs X cs t) (w : ∀ v D σ H, t' v D σ H → t v D σ H) : PMs X cs t' := ⟨fun f pins s σ H D v u I r q => h.run f pins s σ H D v u I r (w _ _ _ _ q)⟩
@[reducible] def tMatch (te : TEp) (t : TMp) : TSp := fun D σ M => te σ M fun v M1 => t v D σ M1
theorem psmatch {e : Expr} {cs : List MatchCase} {pos : Pos} {t : TMp} (he : PEp X H0 e te) (h : PMp X H0 cs t) : PSp' X H0 (.Match e cs pos) (tMatch te t) :=
  psW (ps_match he h) fun D σ H ⟨σp, M, Dp, t, s, m, u, k⟩ => ⟨σp, M, _, t, s, m, u, fun v H1 p M1 t1 m1 r u1 => ⟨p, σp, M1, Dp, t.trans t1, r, s.mono t1, m1, u1, k.mono t1⟩⟩
def tWild (tb : TSp) : TMp := fun _ => tb
theorem pmwild {body : List Stmt} {rest : List MatchCase} {p : Pos} (hb : PSsp X H0 body tb) : PMp X H0 (⟨.MatchAs none none p, none, body⟩ :: rest) (tWild tb) :=
  pmW (pms_wild hb) fun v D σ H ⟨p, σp, M, Dp, t, r, s, m, u, k⟩ => ⟨σp, M, Dp, t, s, m, u, k⟩
def setAllP : PSt → List Nat → List PV → PSt
  | σ, i :: is, v :: vs => setAllP (σ.set i (some v)) is vs
  | σ, _, _ => σ
theorem RelS.setAll {K : Kf} {H : Hp} : ∀ {ps : List PV} {vs : List V} {is : List Nat} {σ τ}, Reps K H ps vs → RelS K H σ τ → RelS K H (setAllP σ is ps) (L2.setAll τ is vs) := by
  intro ps vs is
  induction is generalizing ps vs with
  | nil => intro σ τ r s; cases r <;> exact s
  | cons i is ih => intro σ τ r s; cases r with
    | nil => exact s
    | cons r rr => exact ih rr (s.set r i)
def tCase (c : Str) (is : List Nat) (tb : TSp) (tr : TMp) : TMp := fun v D σ M => ∃ l, v = .tup l ∧ (l.length = is.length + 1 → ∃ x ys, l = .str x :: ys ∧ (x = c → tb D (setAllP σ is ys) M) ∧ (x ≠ c → tr v D σ M)) ∧ (l.length ≠ is.length + 1 → tr v D σ M)
theorem pmcase {c : Str} {k : Nat} {p1 p2 p3 : Pos} {ps : List Pattern} {ns : List Str} {is : List Nat} {body : List Stmt} {rest : List MatchCase} (hc : X.calm = true) (h : Caps X ps ns is) (hb : PSsp X H0 body tb) (hr : PMp X H0 rest tr) :
    PMp X H0 (⟨.MatchSequence (.MatchValue (.Constant (.str c) k p1) p2 :: ps) p3, none, body⟩ :: rest) (tCase c is tb tr) :=
  pmW (pms_seq hc h hb hr) fun v D σ H ⟨p, σp, M, Dp, t, r, s, m, u, k⟩ => by
    obtain ⟨l, e, u1, u2⟩ := u
    subst e
    cases r with
    | tup h r => 
      refine ⟨_, _, rfl, h.t, fun hl => ?_, fun hl => ⟨_, σp, M, Dp, t, .tup h r, s, m, u2 (by rw [r.length]; exact hl), k⟩⟩
      obtain ⟨x, ys, e2, y1, y2⟩ := u1 (by rw [r.length]; exact hl)
      subst e2
      cases r with
      | cons r rr => cases r with
        | str => exact ⟨_, _, rfl, fun e => ⟨_, M, Dp, t, s.setAll rr, m, y1 e, k⟩, fun e => ⟨_, σp, M, Dp, t, .tup h (.cons (.str _) rr), s, m, y2 e, k⟩⟩
    | _ => all_goals exact absurd ‹_› (by simp)
theorem case_len {c : Str} {is : List Nat} {l : List PV} {D : PEnds} {σ : PSt} {M : PHp} (h : l.length ≠ is.length + 1) (q : tr (.tup l) D σ M) : tCase c is tb tr (.tup l) D σ M := ⟨l, rfl, fun e => absurd e h, fun _ => q⟩
theorem case_no {c x : Str} {is : List Nat} {l : List PV} {D : PEnds} {σ : PSt} {M : PHp} (h : x ≠ c) (q : tr (.tup (.str x :: l)) D σ M) : tCase c is tb tr (.tup (.str x :: l)) D σ M := ⟨_, rfl, fun _ => ⟨x, l, rfl, fun e => absurd e h, fun _ => q⟩, fun _ => q⟩
theorem case_yes {c : Str} {is : List Nat} {l : List PV} {D : PEnds} {σ : PSt} {M : PHp} (h : l.length = is.length) (q : tb D (setAllP σ is l) M) : tCase c is tb tr (.tup (.str c :: l)) D σ M := ⟨_, rfl, fun _ => ⟨c, l, rfl, fun _ => q, fun e => absurd rfl e⟩, fun e => absurd (by simp [h]) e⟩
end
end PL

set_option Elab.async false
set_option linter.all false
set_option maxRecDepth 100000
set_option maxHeartbeats 4000000
/-! PL31: try .. except X: a suite. -/
namespace PL
open PySem L2
section
variable {X : Cx} {H0 : Hp}
@[reducible] def tTryOn (K : Kf) (c : Value) (tb : PWX → TSp) (ts : TSp) : TSp := fun D σ M =>
  tb (fun cls d σ' M' => PySem.W.exmOne K cls c = some true ∧ ts D σ' M') D σ M
theorem pstryon {x : Str} {c : Value} {body suite : List Stmt} {b₀ : Stmt} {np pos pos' : Pos} {tb : PWX → TSp} {ts : TSp} (hk : X.calm = true) (hs : X.stack = X.env :: X.outer) (hf : X.env.frame = some X.env.locals)
    (hc : Names X x c)
    (hb : ∀ (H1 : Hp) (pw : PWX) (pn : List (Addr × Obj)) (xe : Value → Shared → Prop), Air (L2.CX X.prog X.w) (X.tr pn xe) H1 pw → PassesOwn (model X.prog X.w) X.A X.env xe → PSsp (X.tr pn xe) H1 body (tb pw))
    (hsu : ∀ (a : Addr) (oe : Obj) (cls : Value) (d : Option Addr) (pn : List (Addr × Obj)), Zc cls d oe → (∃ vs, oe.data = .fields vs) → PSsp (X.suite a ((a, oe) :: pn)) H0 (b₀ :: suite) ts) :
    PSp' X H0 (.Try body [.ExceptHandler (some (.Name x np)) none (b₀ :: suite) pos'] [] [] pos) (tTryOn X.K c tb ts) := by
  refine psW (L2.ps_try_only (tb := fun W D σ H => ∃ H1 pw, (∀ c d σ H, concW X.K H1 pw c d σ H → W c d σ H) ∧ concS X.K H1 (tb pw) D σ H) (ts := fun a cls d => concS X.K H0 ts) (Wout := fun _ _ _ _ => False) hs hf hc (fun u s' x => ?_) (fun W pn xe tk po => ⟨fun pins s σ H D I h => ?_⟩) (fun a oe cls d pn hz hv => hsu a oe cls d pn hz hv)) fun D σ H ⟨σp, M, Dp, t, s, m, u, k⟩ => ?_
  · obtain ⟨a, B, sI, pins, σ, H, cls, d, h⟩ := x
    exact h.2.2.2.2.2.2.2.2.elim
  · obtain ⟨H1, pw, imp, h⟩ := h
    exact (hb H1 pw pn xe (Air.z (X := X.tr pn xe) hk (tk.imp imp)) po).run pins s σ H D I h
  · refine ⟨H, _, ?_, σp, M, Dp, Tk.refl _ _, s, m, u, k⟩
    intro cls d σ1 H1 ⟨σp1, M1, t1, s1, m1, q1, q2⟩
    exact ⟨true, q1, fun _ a na => ⟨σp1, M1, Dp, t.trans t1, s1, m1, q2, k.mono t1⟩, fun z => nomatch z⟩
end
end PL
namespace PL
open PySem L2
theorem takes_none {X : Cx} {K : Kf} {H0 : Hp} : L2.Takes X (concW K H0 fun _ _ _ _ => False) := fun u s' x => by
  obtain ⟨a, B, sI, pins, σ, H, cls, d, h⟩ := x
  obtain ⟨_, _, _, _, _, q⟩ := h.2.2.2.2.2.2.2.2
  exact q.elim
/-- nothing is raised -/
theorem Air.none {X : Cx} {H0 : Hp} (hc : X.calm = true) : Air (L2.CX X.prog X.w) X H0 fun _ _ _ _ => False := Air.z hc takes_none
theorem pcallR0 {X : Cx} {H0 : Hp} {pos : Pos} {k : Nat} {x : Str} {ps : List Str} {psp : PSpec} {p : Pos} {e : Expr} {es : List Expr} {ta : TAp} (C : CalleeR (L2.CX X.prog X.w) X.prog X.w X.K X.mg X.base k x ps psp) (hc : X.calm = true) (hr : Room k X.A) (ha : PAp X H0 (e :: es) ta) (hg : Gl X x := by rfl) (hd : (x == ("__debug__" : Str)) = false := by decide)
    (he : starEach (e :: es) X.env = (false, eval e X.env) :: starEach es X.env := by rfl) (hpl : (backTo pos (starEach es X.env)).any (·.1) = false := by rfl) : PEp X H0 (.Call (.Name x p) (e :: es) [] pos) (tCallR psp (fun _ _ _ _ => False) ta) :=
  pcallR C (Air.none hc) hr ha hg hd he hpl
end PL

set_option Elab.async false
set_option linter.all false
set_option maxRecDepth 100000
set_option maxHeartbeats 4000000
namespace PL
open PySem L2
open Builtin.Int (intBits)
def topS (i : Nat) : Stmt := PySem.Challenge.pw_toldotherwise_k60_sure_pasts.main.body.getD i (.Pass ⟨0, 0, 0, 0⟩)
abbrev s_reduced : Stmt := topS 6
theorem sc_reduced : FnScope ["weights", "common", "weight"] ["weights"] (defScope s_reduced) := ⟨rfl, rfl, rfl, by decide +kernel, rfl, by decide +kernel, by decide +kernel⟩
abbrev s_is_name : Stmt := topS 11
theorem sc_is_name : FnScope ["word", "char"] ["word"] (defScope s_is_name) := ⟨rfl, rfl, rfl, by decide +kernel, rfl, by decide +kernel, by decide +kernel⟩
abbrev s_row_of : Stmt := topS 14
theorem sc_row_of : FnScope ["game", "name", "row"] ["game", "name"] (defScope s_row_of) := ⟨rfl, rfl, rfl, by decide +kernel, rfl, by decide +kernel, by decide +kernel⟩
abbrev s_move_count : Stmt := topS 15
theorem sc_move_count : FnScope ["game", "name"] ["game", "name"] (defScope s_move_count) := ⟨rfl, rfl, rfl, by decide +kernel, rfl, by decide +kernel, by decide +kernel⟩
abbrev s_with_row : Stmt := topS 16
theorem sc_with_row : FnScope ["sets", "row"] ["sets", "row"] (defScope s_with_row) := ⟨rfl, rfl, rfl, by decide +kernel, rfl, by decide +kernel, by decide +kernel⟩
abbrev s_without_row : Stmt := topS 17
theorem sc_without_row : FnScope ["sets", "name", "row"] ["sets", "name"] (defScope s_without_row) := ⟨rfl, rfl, rfl, by decide +kernel, rfl, by decide +kernel, by decide +kernel⟩
abbrev s_fresh_names : Stmt := topS 18
theorem sc_fresh_names : FnScope ["game", "count", "declared", "found", "number", "name", "row"] ["game", "count"] (defScope s_fresh_names) := ⟨rfl, rfl, rfl, by decide +kernel, rfl, by decide +kernel, by decide +kernel⟩
abbrev s_even_weights : Stmt := topS 19
theorem sc_even_weights : FnScope ["count"] ["count"] (defScope s_even_weights) := ⟨rfl, rfl, rfl, by decide +kernel, rfl, by decide +kernel, by decide +kernel⟩
abbrev s_are_weights : Stmt := topS 20
theorem sc_are_weights : FnScope ["owner", "weights", "weight"] ["owner", "weights"] (defScope s_are_weights) := ⟨rfl, rfl, rfl, by decide +kernel, rfl, by decide +kernel, by decide +kernel⟩
abbrev s_node_at : Stmt := topS 22
theorem sc_node_at : FnScope ["tree", "path", "node", "move"] ["tree", "path"] (defScope s_node_at) := ⟨rfl, rfl, rfl, by decide +kernel, rfl, by decide +kernel, by decide +kernel⟩
abbrev s_replaced : Stmt := topS 23
theorem sc_replaced : FnScope ["tree", "path", "node", "move", "children", "lower"] ["tree", "path", "node"] (defScope s_replaced) := ⟨rfl, rfl, rfl, by decide +kernel, rfl, by decide +kernel, by decide +kernel⟩
abbrev s_above : Stmt := topS 24
theorem sc_above : FnScope ["tree", "path", "pairs", "node", "move"] ["tree", "path"] (defScope s_above) := ⟨rfl, rfl, rfl, by decide +kernel, rfl, by decide +kernel, by decide +kernel⟩
abbrev s_paths_of : Stmt := topS 25
theorem sc_paths_of : FnScope ["tree", "name", "found", "move", "child", "path"] ["tree", "name"] (defScope s_paths_of) := ⟨rfl, rfl, rfl, by decide +kernel, rfl, by decide +kernel, by decide +kernel⟩
abbrev s_sets_in : Stmt := topS 26
theorem sc_sets_in : FnScope ["tree", "found", "child", "name"] ["tree"] (defScope s_sets_in) := ⟨rfl, rfl, rfl, by decide +kernel, rfl, by decide +kernel, by decide +kernel⟩
abbrev s_is_new_name : Stmt := topS 28
theorem sc_is_new_name : FnScope ["game", "name"] ["game", "name"] (defScope s_is_new_name) := ⟨rfl, rfl, rfl, by decide +kernel, rfl, by decide +kernel, by decide +kernel⟩
abbrev s_added : Stmt := topS 29
theorem sc_added : FnScope ["game", "name", "owner", "weights"] ["game", "name", "owner", "weights"] (defScope s_added) := ⟨rfl, rfl, rfl, by decide +kernel, rfl, by decide +kernel, by decide +kernel⟩
abbrev s_dropped : Stmt := topS 30
theorem sc_dropped : FnScope ["game", "name"] ["game", "name"] (defScope s_dropped) := ⟨rfl, rfl, rfl, by decide +kernel, rfl, by decide +kernel, by decide +kernel⟩
abbrev s_relabelled : Stmt := topS 31
theorem sc_relabelled : FnScope ["tree", "name", "new", "children", "child"] ["tree", "name", "new"] (defScope s_relabelled) := ⟨rfl, rfl, rfl, by decide +kernel, rfl, by decide +kernel, by decide +kernel⟩
abbrev s_renamed : Stmt := topS 32
theorem sc_renamed : FnScope ["game", "name", "new", "row", "sets"] ["game", "name", "new"] (defScope s_renamed) := ⟨rfl, rfl, rfl, by decide +kernel, rfl, by decide +kernel, by decide +kernel⟩
abbrev s__ordered_nodes : Stmt := topS 33
theorem sc__ordered_nodes : FnScope ["tree", "name", "order", "children", "child", "move"] ["tree", "name", "order"] (defScope s__ordered_nodes) := ⟨rfl, rfl, rfl, by decide +kernel, rfl, by decide +kernel, by decide +kernel⟩
abbrev s_reordered : Stmt := topS 34
theorem sc_reordered : FnScope ["game", "name", "order", "row", "weights", "sets", "move"] ["game", "name", "order"] (defScope s_reordered) := ⟨rfl, rfl, rfl, by decide +kernel, rfl, by decide +kernel, by decide +kernel⟩
abbrev s__cut_nodes : Stmt := topS 36
theorem sc__cut_nodes : FnScope ["node", "upper", "name", "names", "taken", "label", "children", "move", "child"] ["node", "upper", "name", "names", "taken"] (defScope s__cut_nodes) := ⟨rfl, rfl, rfl, by decide +kernel, rfl, by decide +kernel, by decide +kernel⟩
abbrev s_cut_up : Stmt := topS 37
theorem sc_cut_up : FnScope ["game", "upper", "name", "names", "upper_row", "row", "index", "new", "tree", "sets"] ["game", "upper", "name", "names"] (defScope s_cut_up) := ⟨rfl, rfl, rfl, by decide +kernel, rfl, by decide +kernel, by decide +kernel⟩
abbrev s__glued_nodes : Stmt := topS 38
theorem sc__glued_nodes : FnScope ["node", "upper", "names", "name", "taken", "label", "children", "move", "child"] ["node", "upper", "names", "name", "taken"] (defScope s__glued_nodes) := ⟨rfl, rfl, rfl, by decide +kernel, rfl, by decide +kernel, by decide +kernel⟩
abbrev s_glued : Stmt := topS 39
theorem sc_glued : FnScope ["game", "upper", "names", "name", "upper_row", "rows", "index", "row", "tree", "sets", "part"] ["game", "upper", "names", "name"] (defScope s_glued) := ⟨rfl, rfl, rfl, by decide +kernel, rfl, by decide +kernel, by decide +kernel⟩
abbrev s__allowed_weights : Stmt := topS 41
theorem sc__allowed_weights : FnScope ["owner", "weights"] ["owner", "weights"] (defScope s__allowed_weights) := ⟨rfl, rfl, rfl, by decide +kernel, rfl, by decide +kernel, by decide +kernel⟩
abbrev s__stand_together : Stmt := topS 42
theorem sc__stand_together : FnScope ["node", "name", "move", "lower", "is_place", "index", "child"] ["node", "name", "move", "lower", "is_place"] (defScope s__stand_together) := ⟨rfl, rfl, rfl, by decide +kernel, rfl, by decide +kernel, by decide +kernel⟩
abbrev s__joined_nodes : Stmt := topS 43
theorem sc__joined_nodes : FnScope ["node", "name", "move", "children", "child"] ["node", "name", "move"] (defScope s__joined_nodes) := ⟨rfl, rfl, rfl, by decide +kernel, rfl, by decide +kernel, by decide +kernel⟩
abbrev s_joined : Stmt := topS 44
theorem sc_joined : FnScope ["game", "name", "move", "lower", "row", "below", "weights", "total", "before", "block", "behind", "new", "sets", "weight"] ["game", "name", "move", "lower"] (defScope s_joined) := ⟨rfl, rfl, rfl, by decide +kernel, rfl, by decide +kernel, by decide +kernel⟩
abbrev s__split_nodes : Stmt := topS 45
theorem sc__split_nodes : FnScope ["node", "name", "move", "count", "lower", "children", "block", "child"] ["node", "name", "move", "count", "lower"] (defScope s__split_nodes) := ⟨rfl, rfl, rfl, by decide +kernel, rfl, by decide +kernel, by decide +kernel⟩
abbrev s_split_up : Stmt := topS 46
theorem sc_split_up : FnScope ["game", "name", "move", "count", "lower", "row", "block", "weights", "new", "sets"] ["game", "name", "move", "count", "lower"] (defScope s_split_up) := ⟨rfl, rfl, rfl, by decide +kernel, rfl, by decide +kernel, by decide +kernel⟩
abbrev s__node_for_step : Stmt := topS 48
theorem sc__node_for_step : FnScope ["tree", "path", "node"] ["tree", "path"] (defScope s__node_for_step) := ⟨rfl, rfl, rfl, by decide +kernel, rfl, by decide +kernel, by decide +kernel⟩
abbrev s__inner_node : Stmt := topS 49
theorem sc__inner_node : FnScope ["tree", "path", "node"] ["tree", "path"] (defScope s__inner_node) := ⟨rfl, rfl, rfl, by decide +kernel, rfl, by decide +kernel, by decide +kernel⟩
abbrev s_swapped : Stmt := topS 50
theorem sc_swapped : FnScope ["game", "path", "name", "children", "child", "lower", "places", "turned", "move"] ["game", "path"] (defScope s_swapped) := ⟨rfl, rfl, rfl, by decide +kernel, rfl, by decide +kernel, by decide +kernel⟩
abbrev s_put_in : Stmt := topS 51
theorem sc_put_in : FnScope ["game", "path", "name", "node", "row", "upper", "_"] ["game", "path", "name"] (defScope s_put_in) := ⟨rfl, rfl, rfl, by decide +kernel, rfl, by decide +kernel, by decide +kernel⟩
abbrev s_taken_out : Stmt := topS 52
theorem sc_taken_out : FnScope ["game", "path", "children", "child"] ["game", "path"] (defScope s_taken_out) := ⟨rfl, rfl, rfl, by decide +kernel, rfl, by decide +kernel, by decide +kernel⟩
abbrev s_apply_step : Stmt := topS 54
theorem sc_apply_step : FnScope ["game", "step", "path", "name", "owner", "weights", "new", "order", "move", "lower", "count", "upper", "names"] ["game", "step"] (defScope s_apply_step) := ⟨rfl, rfl, rfl, by decide +kernel, rfl, by decide +kernel, by decide +kernel⟩
abbrev s_step_fits : Stmt := topS 55
theorem sc_step_fits : FnScope ["game", "step"] ["game", "step"] (defScope s_step_fits) := ⟨rfl, rfl, rfl, by decide +kernel, rfl, by decide +kernel, by decide +kernel⟩
abbrev s_cut_pairs : Stmt := topS 56
theorem sc_cut_pairs : FnScope ["game", "found", "names", "upper", "fresh", "lower"] ["game"] (defScope s_cut_pairs) := ⟨rfl, rfl, rfl, by decide +kernel, rfl, by decide +kernel, by decide +kernel⟩
abbrev s_sure_past : Stmt := topS 58
theorem sc_sure_past : FnScope ["game", "name", "paths", "common", "path", "pairs", "pair"] ["game", "name"] (defScope s_sure_past) := ⟨rfl, rfl, rfl, by decide +kernel, rfl, by decide +kernel, by decide +kernel⟩
abbrev s__law_source : Stmt := topS 60
theorem sc__law_source : FnScope ["script", "mixed", "cell"] ["script"] (defScope s__law_source) := ⟨rfl, rfl, rfl, by decide +kernel, rfl, by decide +kernel, by decide +kernel⟩
abbrev s__law_draw : Stmt := topS 61
theorem sc__law_draw : FnScope ["script", "source", "limit", "cell", "found"] ["script", "source", "limit"] (defScope s__law_draw) := ⟨rfl, rfl, rfl, by decide +kernel, rfl, by decide +kernel, by decide +kernel⟩
abbrev s__law_name : Stmt := topS 62
theorem sc__law_name : FnScope ["script", "source", "used", "letters", "signs", "name", "k", "base"] ["script", "source", "used"] (defScope s__law_name) := ⟨rfl, rfl, rfl, by decide +kernel, rfl, by decide +kernel, by decide +kernel⟩
abbrev s__law_gcd : Stmt := topS 63
theorem sc__law_gcd : FnScope ["a", "b", "k"] ["a", "b"] (defScope s__law_gcd) := ⟨rfl, rfl, rfl, by decide +kernel, rfl, by decide +kernel, by decide +kernel⟩
abbrev s__law_reduced : Stmt := topS 64
theorem sc__law_reduced : FnScope ["weights", "common", "weight"] ["weights"] (defScope s__law_reduced) := ⟨rfl, rfl, rfl, by decide +kernel, rfl, by decide +kernel, by decide +kernel⟩
abbrev s__law_sets : Stmt := topS 65
theorem sc__law_sets : FnScope ["script", "source", "many", "most", "rows", "used", "turn", "k", "count", "owner", "weights", "name", "j"] ["script", "source", "many", "most"] (defScope s__law_sets) := ⟨rfl, rfl, rfl, by decide +kernel, rfl, by decide +kernel, by decide +kernel⟩
abbrev s__law_tree : Stmt := topS 66
theorem sc__law_tree : FnScope ["script", "source", "free", "outcomes", "room", "wish", "stop", "row", "rest", "style", "shared", "children", "move", "other"] ["script", "source", "free", "outcomes", "room", "wish"] (defScope s__law_tree) := ⟨rfl, rfl, rfl, by decide +kernel, rfl, by decide +kernel, by decide +kernel⟩
abbrev s__law_game : Stmt := topS 67
theorem sc__law_game : FnScope ["script", "source", "many", "most", "nodes", "rows", "outcomes", "k", "top", "row"] ["script", "source", "many", "most", "nodes"] (defScope s__law_game) := ⟨rfl, rfl, rfl, by decide +kernel, rfl, by decide +kernel, by decide +kernel⟩
abbrev s__law_row : Stmt := topS 68
theorem sc__law_row : FnScope ["rows", "name", "row"] ["rows", "name"] (defScope s__law_row) := ⟨rfl, rfl, rfl, by decide +kernel, rfl, by decide +kernel, by decide +kernel⟩
abbrev s__law_nodes : Stmt := topS 69
theorem sc__law_nodes : FnScope ["tree", "path", "pairs", "found", "move"] ["tree", "path", "pairs"] (defScope s__law_nodes) := ⟨rfl, rfl, rfl, by decide +kernel, rfl, by decide +kernel, by decide +kernel⟩
abbrev s__law_is_name : Stmt := topS 70
theorem sc__law_is_name : FnScope ["word", "letters", "sign"] ["word"] (defScope s__law_is_name) := ⟨rfl, rfl, rfl, by decide +kernel, rfl, by decide +kernel, by decide +kernel⟩
abbrev s__law_is_new : Stmt := topS 71
theorem sc__law_is_new : FnScope ["rows", "name"] ["rows", "name"] (defScope s__law_is_new) := ⟨rfl, rfl, rfl, by decide +kernel, rfl, by decide +kernel, by decide +kernel⟩
abbrev s__law_cut : Stmt := topS 72
theorem sc__law_cut : FnScope ["tree", "upper", "name", "names", "move", "children", "k", "down"] ["tree", "upper", "name", "names", "move"] (defScope s__law_cut) := ⟨rfl, rfl, rfl, by decide +kernel, rfl, by decide +kernel, by decide +kernel⟩
abbrev s__law_cut_step : Stmt := topS 73
theorem sc__law_cut_step : FnScope ["game", "step", "rows", "tree", "upper", "row", "names", "k", "path", "node", "pairs", "rest", "new", "pair", "other", "name"] ["game", "step"] (defScope s__law_cut_step) := ⟨rfl, rfl, rfl, by decide +kernel, rfl, by decide +kernel, by decide +kernel⟩
abbrev s__law_names : Stmt := topS 74
theorem sc__law_names : FnScope ["script", "source", "used", "count", "found", "k"] ["script", "source", "used", "count"] (defScope s__law_names) := ⟨rfl, rfl, rfl, by decide +kernel, rfl, by decide +kernel, by decide +kernel⟩
abbrev s__law_told : Stmt := topS 75
theorem sc__law_told : FnScope ["answer", "due", "k", "name"] ["answer", "due"] (defScope s__law_told) := ⟨rfl, rfl, rfl, by decide +kernel, rfl, by decide +kernel, by decide +kernel⟩
abbrev s__law_sure : Stmt := topS 76
theorem sc__law_sure : FnScope ["nodes", "name", "common", "path", "node", "pairs", "pair"] ["nodes", "name"] (defScope s__law_sure) := ⟨rfl, rfl, rfl, by decide +kernel, rfl, by decide +kernel, by decide +kernel⟩
abbrev s__law_behind : Stmt := topS 77
theorem sc__law_behind : FnScope ["nodes", "name", "upper", "found", "path", "node", "pairs", "pair"] ["nodes", "name", "upper"] (defScope s__law_behind) := ⟨rfl, rfl, rfl, by decide +kernel, rfl, by decide +kernel, by decide +kernel⟩
abbrev s__law_cuts : Stmt := topS 78
theorem sc__law_cuts : FnScope ["game", "nodes", "found", "upper", "lower"] ["game"] (defScope s__law_cuts) := ⟨rfl, rfl, rfl, by decide +kernel, rfl, by decide +kernel, by decide +kernel⟩
abbrev s__law_asked : Stmt := topS 79
theorem sc__law_asked : FnScope ["game", "nodes", "names", "row", "one"] ["game"] (defScope s__law_asked) := ⟨rfl, rfl, rfl, by decide +kernel, rfl, by decide +kernel, by decide +kernel⟩
abbrev s_law : Stmt := topS 80
theorem sc_law : FnScope ["script", "source", "start", "game", "k", "pairs", "upper", "lower", "count", "names", "at", "after", "used", "move", "row", "one"] ["script"] (defScope s_law) := ⟨rfl, rfl, rfl, by decide +kernel, rfl, by decide +kernel, by decide +kernel⟩
structure Blt (mg : Str → Option Value) : Prop where
  b_abs : mg "abs" = none
  b_bool : mg "bool" = none
  b_dict : mg "dict" = none
  b_enumerate : mg "enumerate" = none
  b_int : mg "int" = none
  b_isinstance : mg "isinstance" = none
  b_len : mg "len" = none
  b_list : mg "list" = none
  b_range : mg "range" = none
  b_sorted : mg "sorted" = none
  b_str : mg "str" = none
  b_sum : mg "sum" = none
  b_tuple : mg "tuple" = none
  g_gcd : mg "gcd" = some (.builtin "math.gcd")
  c_DIGITS : ∃ t, mg "DIGITS" = some (.str "0123456789" t)
  c_LETTERS : ∃ t, mg "LETTERS" = some (.str "abcdefghijklmnopqrstuvwxyz" t)
  c_LONGEST_NAME : ∃ t, mg "LONGEST_NAME" = some (.int 12 t)
  c_MOST_MOVES : ∃ t, mg "MOST_MOVES" = some (.int 64 t)
structure Xc (K : Kf) (mg : Str → Option Value) : Prop where
  g_GameError : mg "GameError" = some (.ref (clsA K "GameError"))
  g_BadPath : mg "BadPath" = some (.ref (clsA K "BadPath"))
  g_BadStep : mg "BadStep" = some (.ref (clsA K "BadStep"))
  o_BadStep : Own K mg "BadStep" (clsA K "BadStep")
  e_BadStep : ExcC K (clsA K "BadStep")
  m_BadStep : PySem.W.exmOne K (.ref (clsA K "BadStep")) (.ref (clsA K "BadStep")) = some true
  k_BadStep_GameError : PySem.W.kitOne K (.ref (clsA K "BadStep")) (.ref (clsA K "GameError")) = some true
  k_BadStep_ValueError : PySem.W.kitOne K (.ref (clsA K "BadStep")) (.type "ValueError") = some true
  k_BadStep_BadGame : PySem.W.kitOne K (.ref (clsA K "BadStep")) (.type "BadGame") = some false
  k_BadStep_BadPath : PySem.W.kitOne K (.ref (clsA K "BadStep")) (.ref (clsA K "BadPath")) = some false
/-! the law's source of numbers -/
abbrev SL (i c m : Int) : MO := .lst [.int i, .int c, .int m]
/-- objects other than s persist -/
def Keep (s : Addr) (M M' : PHp) : Prop := ∀ b o, b ≠ s → M b = some o → M' b = some o
theorem Keep.refl (s : Addr) (M : PHp) : Keep s M M := fun _ _ _ h => h
theorem Keep.trans {s : Addr} {M M1 M2 : PHp} (a : Keep s M M1) (b : Keep s M1 M2) : Keep s M M2 := fun x o n h => b x o n (a x o n h)
theorem Keep.put {s : Addr} {M : PHp} {o : MO} : Keep s M (updM M s o) := fun b u n h => by rw [updM_ne n]; exact h
theorem Keep.new {s p : Addr} {M : PHp} {o : MO} (h : M p = none) : Keep s M (updM M p o) := fun b u n e => by rw [updM_ne (neM e h)]; exact e
theorem Keep.of_sub {s : Addr} {M M' : PHp} (h : Sub M M') : Keep s M M' := fun b o _ e => h b o e
theorem rdL.sub {K : Kf} {a : Addr} {M M' : PHp} {l : List PV} (h : rdL K M a l) (k : Sub M M') : rdL K M' a l := by
  rcases h with h | h | h
  · exact .inl (k _ _ h)
  · exact .inr (.inl (k _ _ h))
  · exact .inr (.inr h)
/-- the script at a, its source at s (a script that is the module's own may stand anywhere) -/
structure Env (K : Kf) (M : PHp) (a s : Addr) (ns : List Int) : Prop where
  rd0 : (a ≠ s ∧ (M a = some (.lst (ns.map PV.int)) ∨ M a = some (.ro (ns.map PV.int)))) ∨ KL K a (ns.map PV.int)
  src : ∃ i c m, M s = some (SL i c m) ∧ 0 ≤ i ∧ 0 ≤ c ∧ 0 ≤ m
  len : ns.length ≤ 63
  bits : ∀ z ∈ ns, Builtin.Int.intBits z ≤ 1048576
theorem Env.rd {K : Kf} {M : PHp} {a s : Addr} {ns : List Int} (e : Env K M a s ns) : rdL K M a (ns.map PV.int) := by
  rcases e.rd0 with ⟨_, h | h⟩ | h
  · exact .inl h
  · exact .inr (.inl h)
  · exact .inr (.inr h)
theorem Env.to {K : Kf} {M M' : PHp} {a s : Addr} {ns : List Int} (e : Env K M a s ns) (k : Keep s M M') {i c m : Int} (h : M' s = some (SL i c m)) (h1 : 0 ≤ i) (h2 : 0 ≤ c) (h3 : 0 ≤ m) : Env K M' a s ns := by
  refine ⟨?_, ⟨i, c, m, h, h1, h2, h3⟩, e.len, e.bits⟩
  rcases e.rd0 with ⟨n, h | h⟩ | h
  · exact .inl ⟨n, .inl (k _ _ n h)⟩
  · exact .inl ⟨n, .inr (k _ _ n h)⟩
  · exact .inr h
theorem Env.keep {K : Kf} {M M1 M2 : PHp} {a s : Addr} {ns : List Int} (e : Env K M a s ns) (e1 : Env K M1 a s ns) (k : Keep s M M2) (h : M2 s = M1 s) : Env K M2 a s ns := by
  obtain ⟨i, c, m, g1, g2, g3, g4⟩ := e1.src
  exact e.to k (h.trans g1) g2 g3 g4
theorem Env.put {K : Kf} {M : PHp} {a s : Addr} {ns : List Int} (e : Env K M a s ns) {i c m : Int} (h1 : 0 ≤ i) (h2 : 0 ≤ c) (h3 : 0 ≤ m) : Env K (updM M s (SL i c m)) a s ns := e.to .put updM_same h1 h2 h3
theorem Env.sub {K : Kf} {M M' : PHp} {a s : Addr} {ns : List Int} (e : Env K M a s ns) (h : Sub M M') : Env K M' a s ns := by
  obtain ⟨i, c, m, h1, h2, h3, h4⟩ := e.src
  exact e.to (.of_sub h) (h _ _ h1) h2 h3 h4
theorem Env.new {K : Kf} {M : PHp} {a s p : Addr} {ns : List Int} {o : MO} (e : Env K M a s ns) (h : M p = none) : Env K (updM M p o) a s ns := e.sub (.new h)
/-- from the law's own script -/
theorem Env.first {K : Kf} {M M' : PHp} {a s : Addr} {ns : List Int} {m : Int} (h : rdL K M a (ns.map PV.int)) (hs : M s = none) (sb : Sub M M') (hm : M' s = some (SL 0 0 m)) (h0 : 0 ≤ m) (hl : ns.length ≤ 63) (hb : ∀ z ∈ ns, Builtin.Int.intBits z ≤ 1048576) : Env K M' a s ns := by
  refine ⟨?_, ⟨0, 0, m, hm, by decide, by decide, h0⟩, hl, hb⟩
  rcases h with h | h | h
  · exact .inl ⟨neM h hs, .inl (sb _ _ h)⟩
  · exact .inl ⟨neM h hs, .inr (sb _ _ h)⟩
  · exact .inr h
theorem Env.src_ne {K : Kf} {M : PHp} {a s p : Addr} {ns : List Int} (e : Env K M a s ns) (h : M p = none) : p ≠ s := by
  obtain ⟨i, c, m, h1, _⟩ := e.src
  exact neM' h1 h
theorem Keep.put1 {s : Addr} {M M1 : PHp} {o : MO} (k : Keep s M M1) : Keep s M (updM M1 s o) := k.trans .put
theorem Keep.new1 {s p : Addr} {M M1 : PHp} {o : MO} (k : Keep s M M1) (h : M1 p = none) : Keep s M (updM M1 p o) := k.trans (.new h)
theorem at_ints {ns : List Int} {i : Int} (h0 : 0 ≤ i) (h1 : i < (ns.length : Int)) : ∃ z, z ∈ ns ∧ ns[i.toNat]? = some z ∧ atI (ns.map PV.int) i = some (.int z) := by
  obtain ⟨j, rfl⟩ : ∃ j : Nat, i = (j : Int) := ⟨i.toNat, by omega⟩
  have h : j < ns.length := by omega
  refine ⟨ns[j], List.getElem_mem h, List.getElem?_eq_getElem h, atI_nat ?_⟩
  rw [List.getElem?_map, List.getElem?_eq_getElem h]
  rfl
theorem fm {i j : Int} (h : 0 < j) : 0 ≤ i.fmod j ∧ i.fmod j < j := by
  rw [Int.fmod_eq_emod_of_nonneg i (by omega)]
  exact ⟨Int.emod_nonneg i (by omega), Int.emod_lt_of_pos i h⟩
theorem fd0 {i j : Int} (h0 : 0 ≤ i) (h : 0 < j) : 0 ≤ i.fdiv j := by
  rw [Int.fdiv_eq_ediv_of_nonneg i (by omega)]
  exact Int.ediv_nonneg h0 (by omega)
theorem p18 : (10 : Int) ^ Int.toNat 18 = 1000000000000000000 := by decide
theorem p9 : (10 : Int) ^ Int.toNat 9 = 1000000000 := by decide
theorem p20 : (10 : Int) ^ Int.toNat 20 = 100000000000000000000 := by decide
theorem p31 : (10 : Int) ^ Int.toNat 31 = 10000000000000000000000000000000 := by decide
def sp__law_draw (K : Kf) : PSpec := fun vs M Q _ => ∃ (a s : Addr) (ns : List Int) (l : Int), vs = [.ref a, .ref s, .int l] ∧ Env K M a s ns ∧ 0 < l ∧ Builtin.Int.intBits l ≤ 64 ∧
  ∀ r M', 0 ≤ r → r < l → Env K M' a s ns → Keep s M M' → Q (.int r) M'
theorem sp__law_draw_len {K : Kf} {vs : List PV} {M : PHp} {Q : PVK} {E : PXK} (h : sp__law_draw K vs M Q E) : vs.length = 3 := by
  obtain ⟨_, _, _, _, rfl, _⟩ := h; rfl
theorem bits64 {x : Int} (h : x.natAbs < 2 ^ 64) : intBits x ≤ 64 := intBits_le_iff.mpr h
theorem Keep.own {s p : Addr} {M M2 : PHp} {o : MO} (k : Keep s M M2) (h : M p = none) : Keep s M (updM M2 p o) := fun b u nb hb => by
  by_cases hbp : b = p
  · subst hbp; rw [h] at hb; cases hb
  · rw [updM_ne hbp]; exact k b u nb hb
theorem Env.own {K : Kf} {M M2 : PHp} {a s p : Addr} {ns : List Int} {o : MO} (e : Env K M a s ns) (e2 : Env K M2 a s ns) (h : M p = none) (ps : p ≠ s) (k : Keep s M M2) : Env K (updM M2 p o) a s ns := e.keep e2 (k.own h) (updM_ne ps.symm)
theorem Keep.none {K : Kf} {s p a : Addr} {M M' : PHp} {ns : List Int} (k : Keep s M M') (e : Env K M' a s ns) (h : M' p = none) : M p = none := by
  cases q : M p with
  | none => rfl
  | some o =>
    have := k p o (e.src_ne h) q
    rw [h] at this; cases this

/-! what is known of the heap: S: what may change, L: what stands where -/
theorem updM_at {M : PHp} {a b : Addr} {o u : MO} (n : b ≠ a) (h : M b = some u) : updM M a o b = some u := (updM_ne n).trans h
structure Hd (S : List Addr) (M0 M : PHp) (L : List (Addr × MO)) : Prop where
  kp : ∀ b o, b ∉ S → M0 b = some o → M b = some o
  ats : ∀ x ∈ L, M x.1 = some x.2
  fr : ∀ x ∈ L, M0 x.1 = none ∨ x.1 ∈ S
  nd : (L.map Prod.fst).Nodup
section
variable {K : Kf} {S : List Addr} {M0 M M' : PHp} {L : List (Addr × MO)} {a s p : Addr} {ns : List Int} {o o' : MO} {x y z v : Addr × MO}
theorem Hd.start : Hd S M M [] := ⟨fun _ _ _ h => h, by simp, by simp, List.nodup_nil⟩
theorem Hd.get (h : Hd S M0 M L) (i : Nat) (e : L[i]? = some (p, o)) : M p = some o := h.ats _ (List.mem_of_getElem? e)
theorem Hd.g0 (h : Hd S M0 M ((p, o) :: L)) : M p = some o := h.get 0 rfl
theorem Hd.g1 {y0 : Addr × MO} (h : Hd S M0 M (y0 :: (p, o) :: L)) : M p = some o := h.get 1 rfl
theorem Hd.g2 {y0 y1 : Addr × MO} (h : Hd S M0 M (y0 :: y1 :: (p, o) :: L)) : M p = some o := h.get 2 rfl
theorem Hd.g3 {y0 y1 y2 : Addr × MO} (h : Hd S M0 M (y0 :: y1 :: y2 :: (p, o) :: L)) : M p = some o := h.get 3 rfl
theorem Hd.g4 {y0 y1 y2 y3 : Addr × MO} (h : Hd S M0 M (y0 :: y1 :: y2 :: y3 :: (p, o) :: L)) : M p = some o := h.get 4 rfl
theorem Hd.g5 {y0 y1 y2 y3 y4 : Addr × MO} (h : Hd S M0 M (y0 :: y1 :: y2 :: y3 :: y4 :: (p, o) :: L)) : M p = some o := h.get 5 rfl
theorem Hd.new (h : Hd S M0 M L) (hp : M p = none) : Hd S M0 (updM M p o) ((p, o) :: L) := by
  refine ⟨fun b u nb hb => ?_, fun x hx => ?_, fun x hx => ?_, ?_⟩
  · have := h.kp b u nb hb
    rw [updM_ne (neM this hp)]; exact this
  · rcases List.mem_cons.mp hx with rfl | hx
    · exact updM_same
    · have := h.ats x hx
      rw [updM_ne (neM this hp)]; exact this
  · rcases List.mem_cons.mp hx with rfl | hx
    · by_cases q : p ∈ S
      · exact .inr q
      · left
        cases e : M0 p with
        | none => rfl
        | some u => have := h.kp p u q e; rw [hp] at this; cases this
    · exact h.fr x hx
  · rw [List.map_cons, List.nodup_cons]
    refine ⟨fun hm => ?_, h.nd⟩
    obtain ⟨y, hy, e⟩ := List.mem_map.mp hm
    have := h.ats y hy
    rw [e, hp] at this; cases this
theorem Hd.put {L1 L2 : List (Addr × MO)} (h : Hd S M0 M (L1 ++ (p, o) :: L2)) : Hd S M0 (updM M p o') (L1 ++ (p, o') :: L2) := by
  have nd := h.nd
  rw [List.map_append, List.map_cons] at nd
  have n1 := (List.nodup_append.mp nd)
  have n2 := (List.nodup_cons.mp n1.2.1)
  refine ⟨fun b u nb hb => ?_, fun x hx => ?_, fun x hx => ?_, by rw [List.map_append, List.map_cons]; exact nd⟩
  · have := h.kp b u nb hb
    refine (updM_ne fun e => ?_).trans this
    subst e
    rcases h.fr (b, o) (List.mem_append_right _ List.mem_cons_self) with q | q
    · rw [q] at hb; cases hb
    · exact nb q
  · rcases List.mem_append.mp hx with hx | hx
    · refine (updM_ne fun e => ?_).trans (h.ats x (List.mem_append_left _ hx))
      exact n1.2.2 x.1 (List.mem_map_of_mem hx) p List.mem_cons_self e
    · rcases List.mem_cons.mp hx with rfl | hx
      · exact updM_same
      · refine (updM_ne fun e => ?_).trans (h.ats x (List.mem_append_right _ (List.mem_cons_of_mem _ hx)))
        have q := List.mem_map_of_mem (f := Prod.fst) hx
        rw [e] at q; exact n2.1 q
  · rcases List.mem_append.mp hx with hx | hx
    · exact h.fr x (List.mem_append_left _ hx)
    · rcases List.mem_cons.mp hx with rfl | hx
      · exact h.fr (p, o) (List.mem_append_right _ List.mem_cons_self)
      · exact h.fr x (List.mem_append_right _ (List.mem_cons_of_mem _ hx))
theorem Hd.up0 (h : Hd S M0 M ((p, o) :: L)) : Hd S M0 (updM M p o') ((p, o') :: L) := Hd.put (L1 := []) h
theorem Hd.up1 (h : Hd S M0 M (x :: (p, o) :: L)) : Hd S M0 (updM M p o') (x :: (p, o') :: L) := Hd.put (L1 := [x]) h
theorem Hd.up2 (h : Hd S M0 M (x :: y :: (p, o) :: L)) : Hd S M0 (updM M p o') (x :: y :: (p, o') :: L) := Hd.put (L1 := [x, y]) h
theorem Hd.up3 (h : Hd S M0 M (x :: y :: z :: (p, o) :: L)) : Hd S M0 (updM M p o') (x :: y :: z :: (p, o') :: L) := Hd.put (L1 := [x, y, z]) h
theorem Hd.up4 (h : Hd S M0 M (x :: y :: z :: v :: (p, o) :: L)) : Hd S M0 (updM M p o') (x :: y :: z :: v :: (p, o') :: L) := Hd.put (L1 := [x, y, z, v]) h
/-- fewer things known -/
theorem Hd.less {L' : List (Addr × MO)} (h : Hd S M0 M L) (s : L'.Sublist L) : Hd S M0 M L' := ⟨h.kp, fun x hx => h.ats x (s.subset hx), fun x hx => h.fr x (s.subset hx), h.nd.sublist (s.map _)⟩
theorem Hd.sub (h : Hd [] M0 M L) : Sub M0 M := fun b o hb => h.kp b o (by simp) hb
theorem Hd.step (h : Hd S M0 M L) (k : Sub M M') : Hd S M0 M' L := ⟨fun b u nb hb => k _ _ (h.kp b u nb hb), fun x hx => k _ _ (h.ats x hx), h.fr, h.nd⟩
/-- with the script's source -/
structure He (K : Kf) (S : List Addr) (a s : Addr) (ns : List Int) (M0 M : PHp) (L : List (Addr × MO)) : Prop where
  env : Env K M a s ns
  hd : Hd (s :: S) M0 M L
  sn : s ∉ L.map Prod.fst
  sc : KL K a (ns.map PV.int) ∨ (a ∉ s :: S ∧ ∃ u, M0 a = some u)
theorem He.start (e : Env K M a s ns) : He K [] a s ns M M [] := ⟨e, .start, by simp, by
  rcases e.rd0 with ⟨n, h | h⟩ | h
  · exact .inr ⟨by simpa using n, _, h⟩
  · exact .inr ⟨by simpa using n, _, h⟩
  · exact .inl h⟩
/-- one more object changes: what the caller gives at r -/
theorem He.start1 {r : Addr} (e : Env K M a s ns) (hr : M r = some o) (rs : r ≠ s) (ra : KL K a (ns.map PV.int) ∨ r ≠ a) : He K [r] a s ns M M [(r, o)] := by
  refine ⟨e, ⟨fun _ _ _ h => h, fun x hx => ?_, fun x hx => ?_, by simp⟩, by simpa using rs.symm, ?_⟩
  · rw [List.mem_singleton.mp hx]; exact hr
  · rw [List.mem_singleton.mp hx]; exact .inr (by simp)
  · rcases ra with h | ra
    · exact .inl h
    rcases e.rd0 with ⟨n, h | h⟩ | h
    · exact .inr ⟨by simp [n, ra.symm], _, h⟩
    · exact .inr ⟨by simp [n, ra.symm], _, h⟩
    · exact .inl h
theorem He.get (h : He K S a s ns M0 M L) (i : Nat) (e : L[i]? = some (p, o)) : M p = some o := h.hd.get i e
theorem He.g0 (h : He K S a s ns M0 M ((p, o) :: L)) : M p = some o := h.get 0 rfl
theorem He.g1 {y0 : Addr × MO} (h : He K S a s ns M0 M (y0 :: (p, o) :: L)) : M p = some o := h.get 1 rfl
theorem He.g2 {y0 y1 : Addr × MO} (h : He K S a s ns M0 M (y0 :: y1 :: (p, o) :: L)) : M p = some o := h.get 2 rfl
theorem He.g3 {y0 y1 y2 : Addr × MO} (h : He K S a s ns M0 M (y0 :: y1 :: y2 :: (p, o) :: L)) : M p = some o := h.get 3 rfl
theorem He.g4 {y0 y1 y2 y3 : Addr × MO} (h : He K S a s ns M0 M (y0 :: y1 :: y2 :: y3 :: (p, o) :: L)) : M p = some o := h.get 4 rfl
theorem He.g5 {y0 y1 y2 y3 y4 : Addr × MO} (h : He K S a s ns M0 M (y0 :: y1 :: y2 :: y3 :: y4 :: (p, o) :: L)) : M p = some o := h.get 5 rfl
theorem He.new (h : He K S a s ns M0 M L) (hp : M p = none) : He K S a s ns M0 (updM M p o) ((p, o) :: L) :=
  ⟨h.env.new hp, h.hd.new hp, by rw [List.map_cons]; exact fun hm => (List.mem_cons.mp hm).elim (fun e => h.env.src_ne hp e.symm) h.sn, h.sc⟩
theorem He.put {L1 L2 : List (Addr × MO)} (h : He K S a s ns M0 M (L1 ++ (p, o) :: L2)) : He K S a s ns M0 (updM M p o') (L1 ++ (p, o') :: L2) := by
  have ps : p ≠ s := fun e => h.sn (by rw [List.map_append, List.map_cons]; exact List.mem_append_right _ (e ▸ List.mem_cons_self))
  refine ⟨?_, h.hd.put, by have := h.sn; rw [List.map_append, List.map_cons] at this ⊢; exact this, h.sc⟩
  obtain ⟨i, c, m, g1, g2, g3, g4⟩ := h.env.src
  refine ⟨?_, ⟨i, c, m, (updM_ne ps.symm).trans g1, g2, g3, g4⟩, h.env.len, h.env.bits⟩
  rcases h.sc with q | ⟨q, u, hu⟩
  · exact .inr q
  have ap : a ≠ p := fun e => by
    rcases h.hd.fr (p, o) (List.mem_append_right _ List.mem_cons_self) with f | f
    · rw [← e, hu] at f; cases f
    · exact q (e ▸ f)
  rcases h.env.rd0 with ⟨n, f | f⟩ | f
  · exact .inl ⟨n, .inl ((updM_ne ap).trans f)⟩
  · exact .inl ⟨n, .inr ((updM_ne ap).trans f)⟩
  · exact .inr f
theorem He.up0 (h : He K S a s ns M0 M ((p, o) :: L)) : He K S a s ns M0 (updM M p o') ((p, o') :: L) := He.put (L1 := []) h
theorem He.up1 (h : He K S a s ns M0 M (x :: (p, o) :: L)) : He K S a s ns M0 (updM M p o') (x :: (p, o') :: L) := He.put (L1 := [x]) h
theorem He.up2 (h : He K S a s ns M0 M (x :: y :: (p, o) :: L)) : He K S a s ns M0 (updM M p o') (x :: y :: (p, o') :: L) := He.put (L1 := [x, y]) h
theorem He.up3 (h : He K S a s ns M0 M (x :: y :: z :: (p, o) :: L)) : He K S a s ns M0 (updM M p o') (x :: y :: z :: (p, o') :: L) := He.put (L1 := [x, y, z]) h
theorem He.up4 (h : He K S a s ns M0 M (x :: y :: z :: v :: (p, o) :: L)) : He K S a s ns M0 (updM M p o') (x :: y :: z :: v :: (p, o') :: L) := He.put (L1 := [x, y, z, v]) h
theorem He.less {L' : List (Addr × MO)} (h : He K S a s ns M0 M L) (t : L'.Sublist L) : He K S a s ns M0 M L' := ⟨h.env, h.hd.less t, fun hm => h.sn ((t.map _).subset hm), h.sc⟩
theorem He.d0 (h : He K S a s ns M0 M (x :: L)) : He K S a s ns M0 M L := h.less (List.sublist_cons_self ..)
theorem He.d1 (h : He K S a s ns M0 M (x :: y :: L)) : He K S a s ns M0 M (x :: L) := h.less (.cons_cons _ (List.sublist_cons_self ..))
theorem He.d2 (h : He K S a s ns M0 M (x :: y :: z :: L)) : He K S a s ns M0 M (x :: y :: L) := h.less (.cons_cons _ (.cons_cons _ (List.sublist_cons_self ..)))
theorem He.nil (h : He K S a s ns M0 M L) : He K S a s ns M0 M [] := h.less (List.nil_sublist _)
/-- behind a call that changes the source alone -/
theorem He.call (h : He K S a s ns M0 M L) (e : Env K M' a s ns) (k : Keep s M M') : He K S a s ns M0 M' L := by
  refine ⟨e, ⟨fun b u nb hb => ?_, fun x hx => ?_, h.hd.fr, h.hd.nd⟩, h.sn, h.sc⟩
  · exact k _ _ (fun e => nb (e ▸ List.mem_cons_self)) (h.hd.kp b u nb hb)
  · exact k _ _ (fun e => h.sn (e ▸ List.mem_map_of_mem hx)) (h.hd.ats x hx)
theorem He.step (h : He K S a s ns M0 M L) (k : Sub M M') : He K S a s ns M0 M' L := h.call (h.env.sub k) (.of_sub k)
theorem He.keep (h : He K [] a s ns M0 M L) : Keep s M0 M := fun b o n hb => h.hd.kp b o (by simpa using n) hb
theorem He.old (h : He K S a s ns M0 M L) (n : p ∉ s :: S) (e : M0 p = some o) : M p = some o := h.hd.kp _ _ n e
theorem He.ne_s (h : He K S a s ns M0 M L) (i : Nat) (e : L[i]? = some (p, o)) : p ≠ s := fun q => h.sn (q ▸ List.mem_map_of_mem (f := Prod.fst) (List.mem_of_getElem? e))
theorem He.ne {p q : Addr} {o o' : MO} (h : He K S a s ns M0 M L) (i j : Nat) (n : i ≠ j) (e : L[i]? = some (p, o)) (e' : L[j]? = some (q, o')) : p ≠ q := fun he => by
  subst he
  have nd := h.hd.nd
  have e1 : (L.map Prod.fst)[i]? = some p := by rw [List.getElem?_map, e]; rfl
  have e2 : (L.map Prod.fst)[j]? = some p := by rw [List.getElem?_map, e']; rfl
  exact n ((List.getElem?_inj (List.getElem?_eq_some_iff.mp e1).1 nd).mp (e1.trans e2.symm))
theorem He.ne_a (h : He K S a s ns M0 M L) (i : Nat) (e : L[i]? = some (p, o)) : KL K a (ns.map PV.int) ∨ p ≠ a := by
  rcases h.sc with q | ⟨q, u, hu⟩
  · exact .inl q
  · refine .inr fun e' => ?_
    rcases h.hd.fr _ (List.mem_of_getElem? e) with f | f
    · have f : M0 p = none := f
      rw [e', hu] at f; cases f
    · exact q (e' ▸ f)
theorem He.fresh (h : He K [] a s ns M0 M L) (i : Nat) (e : L[i]? = some (p, o)) : M0 p = none := by
  rcases h.hd.fr _ (List.mem_of_getElem? e) with q | q
  · exact q
  · exact absurd (List.mem_singleton.mp q) (h.ne_s i e)
theorem He.rd (h : He K S a s ns M0 M L) : rdL K M a (ns.map PV.int) := h.env.rd
/-- a call that changes the source and r -/
def Keep2 (s r : Addr) (M M' : PHp) : Prop := ∀ b o, b ≠ s → b ≠ r → M b = some o → M' b = some o
theorem He.keep2 {r : Addr} (h : He K [r] a s ns M0 M L) : Keep2 s r M0 M := fun b o n1 n2 hb => h.hd.kp b o (by simp [n1, n2]) hb
theorem He.call2 {L1 L2 : List (Addr × MO)} (h : He K S a s ns M0 M (L1 ++ (p, o) :: L2)) (e : Env K M' a s ns) (k : Keep2 s p M M') (hp : M' p = some o') : He K S a s ns M0 M' (L1 ++ (p, o') :: L2) := by
  have h2 := h.put (o' := o')
  have ps : p ≠ s := fun e => h.sn (by rw [List.map_append, List.map_cons]; exact List.mem_append_right _ (e ▸ List.mem_cons_self))
  refine h2.call e fun b u n hb => ?_
  by_cases q : b = p
  · subst q; rw [updM_same] at hb; cases hb; exact hp
  · rw [updM_ne q] at hb; exact k b u n q hb
theorem He.c20 (h : He K S a s ns M0 M ((p, o) :: L)) (e : Env K M' a s ns) (k : Keep2 s p M M') (hp : M' p = some o') : He K S a s ns M0 M' ((p, o') :: L) := He.call2 (L1 := []) h e k hp
theorem He.c21 (h : He K S a s ns M0 M (x :: (p, o) :: L)) (e : Env K M' a s ns) (k : Keep2 s p M M') (hp : M' p = some o') : He K S a s ns M0 M' (x :: (p, o') :: L) := He.call2 (L1 := [x]) h e k hp
theorem He.c22 (h : He K S a s ns M0 M (x :: y :: (p, o) :: L)) (e : Env K M' a s ns) (k : Keep2 s p M M') (hp : M' p = some o') : He K S a s ns M0 M' (x :: y :: (p, o') :: L) := He.call2 (L1 := [x, y]) h e k hp
theorem He.c23 (h : He K S a s ns M0 M (x :: y :: z :: (p, o) :: L)) (e : Env K M' a s ns) (k : Keep2 s p M M') (hp : M' p = some o') : He K S a s ns M0 M' (x :: y :: z :: (p, o') :: L) := He.call2 (L1 := [x, y, z]) h e k hp
theorem Hd.perm {L' : List (Addr × MO)} (h : Hd S M0 M L) (p : L.Perm L') : Hd S M0 M L' := ⟨h.kp, fun x hx => h.ats x (p.mem_iff.mpr hx), fun x hx => h.fr x (p.mem_iff.mpr hx), (p.map _).nodup_iff.mp h.nd⟩
theorem He.perm {L' : List (Addr × MO)} (h : He K S a s ns M0 M L) (p : L.Perm L') : He K S a s ns M0 M L' := ⟨h.env, h.hd.perm p, fun hm => h.sn ((p.map _).mem_iff.mpr hm), h.sc⟩
theorem set_split {α : Type} {l : List α} {i : Nat} {x : α} (e : l[i]? = some x) : ∃ l1 l2, l = l1 ++ x :: l2 ∧ l1.length = i := by
  obtain ⟨hi, rfl⟩ := List.getElem?_eq_some_iff.mp e
  exact ⟨l.take i, l.drop (i + 1), by rw [List.getElem_cons_drop, List.take_append_drop], by rw [List.length_take]; omega⟩
theorem He.seti (h : He K S a s ns M0 M L) (i : Nat) (e : L[i]? = some (p, o)) : He K S a s ns M0 (updM M p o') (L.set i (p, o')) := by
  obtain ⟨l1, l2, rfl, rfl⟩ := set_split e
  have := h.put (o' := o')
  rw [List.set_append_right _ _ (Nat.le_refl _), Nat.sub_self]
  exact this
theorem Hd.seti (h : Hd S M0 M L) (i : Nat) (e : L[i]? = some (p, o)) : Hd S M0 (updM M p o') (L.set i (p, o')) := by
  obtain ⟨l1, l2, rfl, rfl⟩ := set_split e
  have := h.put (o' := o')
  rw [List.set_append_right _ _ (Nat.le_refl _), Nat.sub_self]
  exact this
theorem sel_nd {is : List Nat} {L L' : List (Addr × MO)} (nd : (L.map Prod.fst).Nodup) (hn : is.Nodup) (e : is.map (fun i => L[i]?) = L'.map some) : (L'.map Prod.fst).Nodup ∧ ∀ x ∈ L', ∃ i ∈ is, L[i]? = some x := by
  induction is generalizing L' with
  | nil =>
    cases L' with
    | nil => exact ⟨List.nodup_nil, by simp⟩
    | cons x l => cases e
  | cons i is ih =>
    cases L' with
    | nil => cases e
    | cons x l =>
      rw [List.map_cons, List.map_cons, List.cons.injEq] at e
      obtain ⟨h1, h2⟩ := ih (List.nodup_cons.mp hn).2 e.2
      refine ⟨?_, fun y hy => ?_⟩
      · rw [List.map_cons, List.nodup_cons]
        refine ⟨fun hm => ?_, h1⟩
        obtain ⟨y, hy, ey⟩ := List.mem_map.mp hm
        obtain ⟨j, hj, ej⟩ := h2 y hy
        have e1 : (L.map Prod.fst)[i]? = some x.1 := by rw [List.getElem?_map, e.1]; rfl
        have e2 : (L.map Prod.fst)[j]? = some x.1 := by rw [List.getElem?_map, ej, ← ey]; rfl
        have := (List.getElem?_inj (List.getElem?_eq_some_iff.mp e1).1 nd).mp (e1.trans e2.symm)
        exact (List.nodup_cons.mp hn).1 (this ▸ hj)
      · rcases List.mem_cons.mp hy with rfl | hy
        · exact ⟨i, List.mem_cons_self, e.1⟩
        · obtain ⟨j, hj, ej⟩ := h2 y hy
          exact ⟨j, List.mem_cons_of_mem _ hj, ej⟩
theorem Hd.sel {L' : List (Addr × MO)} (h : Hd S M0 M L) (is : List Nat) (hn : is.Nodup) (e : is.map (fun i => L[i]?) = L'.map some) : Hd S M0 M L' := by
  obtain ⟨h1, h2⟩ := sel_nd h.nd hn e
  have mem : ∀ x ∈ L', x ∈ L := fun x hx => by obtain ⟨i, _, q⟩ := h2 x hx; exact List.mem_of_getElem? q
  exact ⟨h.kp, fun x hx => h.ats x (mem x hx), fun x hx => h.fr x (mem x hx), h1⟩
theorem He.sel {L' : List (Addr × MO)} (h : He K S a s ns M0 M L) (is : List Nat) (hn : is.Nodup) (e : is.map (fun i => L[i]?) = L'.map some) : He K S a s ns M0 M L' := by
  obtain ⟨h1, h2⟩ := sel_nd h.hd.nd hn e
  refine ⟨h.env, h.hd.sel is hn e, fun hm => h.sn ?_, h.sc⟩
  obtain ⟨x, hx, q⟩ := List.mem_map.mp hm
  obtain ⟨i, _, q2⟩ := h2 x hx
  exact q ▸ List.mem_map_of_mem (List.mem_of_getElem? q2)
theorem He.nin {A R : List (Addr × MO)} (h : He K S a s ns M0 M (A ++ R)) (i : Nat) (e : R[i]? = some (p, o)) : p ∉ s :: A.map Prod.fst := fun hm => by
  have hx := List.mem_of_getElem? e
  rcases List.mem_cons.mp hm with q | hm
  · exact h.sn (by rw [List.map_append]; exact List.mem_append_right _ (q ▸ List.mem_map_of_mem hx))
  · have nd := h.hd.nd
    rw [List.map_append] at nd
    exact (List.nodup_append.mp nd).2.2 _ hm _ (List.mem_map_of_mem hx) rfl
theorem He.nino (h : He K [] a s ns M0 M L) (n : p ≠ s) (e : M0 p = some o) : p ∉ s :: L.map Prod.fst := fun hm => by
  rcases List.mem_cons.mp hm with q | hm
  · exact n q
  · obtain ⟨x, hx, q⟩ := List.mem_map.mp hm
    rcases h.hd.fr x hx with f | f
    · rw [q, e] at f; cases f
    · exact n (q ▸ List.mem_singleton.mp f)
/-- from here on: what stands in L may change, all else stays -/
theorem He.again (h : He K S a s ns M0 M L) : He K (L.map Prod.fst) a s ns M M L := by
  refine ⟨h.env, ⟨fun _ _ _ e => e, h.hd.ats, fun x hx => .inr (List.mem_cons_of_mem _ (List.mem_map_of_mem hx)), h.hd.nd⟩, h.sn, ?_⟩
  rcases h.sc with q | ⟨q, u, hu⟩
  · exact .inl q
  · refine .inr ⟨fun hm => ?_, u, h.hd.kp _ _ q hu⟩
    rcases List.mem_cons.mp hm with e | hm
    · exact q (e ▸ List.mem_cons_self)
    · obtain ⟨x, hx, e⟩ := List.mem_map.mp hm
      rcases h.hd.fr x hx with f | f
      · rw [e, hu] at f; cases f
      · exact q (e ▸ f)
/-- a new object p that its maker has changed, and one that it has made -/
theorem Hd.madeS (hp : M p = some o) (k : Keep p M M') (hp' : M' p = some o') : Sub (updM M p o') M' := fun b u e => by
  by_cases q : b = p
  · subst q; rw [updM_same] at e; cases e; exact hp'
  · rw [updM_ne q] at e; exact k _ _ q e
theorem Hd.kept (h : Hd S M0 M ((p, o) :: L)) (k : Keep p M M') (hp : M' p = some o') : Hd S M0 M' ((p, o') :: L) := h.up0.step (Hd.madeS (h.get 0 rfl) k hp)
theorem Hd.kepti (h : Hd S M0 M L) (i : Nat) (e : L[i]? = some (p, o)) (k : Keep p M M') (hp : M' p = some o') : Hd S M0 M' (L.set i (p, o')) := (h.seti i e).step (Hd.madeS (h.get i e) k hp)
theorem Hd.made {d : Addr} {od : MO} (h : Hd S M0 M ((p, o) :: L)) (k : Keep p M M') (hp : M' p = some o') (hd : M d = none) (hd' : M' d = some od) : Hd S M0 M' ((d, od) :: (p, o') :: L) := by
  have hpM := h.get 0 rfl
  have dp : d ≠ p := fun e => by subst e; rw [hpM] at hd; cases hd
  have h2 := h.up0 (o' := o')
  have h3 := h2.new (o := od) (p := d) (by rw [updM_ne dp]; exact hd)
  refine h3.step fun b u e => ?_
  by_cases q : b = d
  · subst q; rw [updM_same] at e; cases e; exact hd'
  · rw [updM_ne q] at e; exact Hd.madeS hpM k hp b u e
/-- all but S persists -/
abbrev KeepS (S : List Addr) (M M' : PHp) : Prop := ∀ b o, b ∉ S → M b = some o → M' b = some o
theorem Hd.keepS (h : Hd S M0 M L) : KeepS S M0 M := h.kp
theorem He.kept (h : He K S a s ns M0 M ((p, o) :: L)) (k : Keep p M M') (hp : M' p = some o') : He K S a s ns M0 M' ((p, o') :: L) := h.up0.step (Hd.madeS (h.get 0 rfl) k hp)
theorem He.kepti (h : He K S a s ns M0 M L) (i : Nat) (e : L[i]? = some (p, o)) (k : Keep p M M') (hp : M' p = some o') : He K S a s ns M0 M' (L.set i (p, o')) := (h.seti i e).step (Hd.madeS (h.get i e) k hp)
theorem He.made {d : Addr} {od : MO} (h : He K S a s ns M0 M ((p, o) :: L)) (k : Keep p M M') (hp : M' p = some o') (hd : M d = none) (hd' : M' d = some od) : He K S a s ns M0 M' ((d, od) :: (p, o') :: L) := by
  have hpM := h.get 0 rfl
  have dp : d ≠ p := fun e => by subst e; rw [hpM] at hd; cases hd
  have h2 := h.up0 (o' := o')
  have h3 := h2.new (o := od) (p := d) (by rw [updM_ne dp]; exact hd)
  refine h3.step fun b u e => ?_
  by_cases q : b = d
  · subst q; rw [updM_same] at e; cases e; exact hd'
  · rw [updM_ne q] at e; exact Hd.madeS hpM k hp b u e
/-- behind a call that changes what stands at G's places -/
theorem He.callS {L1 G L2 G' : List (Addr × MO)} (h : He K S a s ns M0 M (L1 ++ (G ++ L2))) (hk : KeepS (G.map Prod.fst) M M') (hG : ∀ x ∈ G', M' x.1 = some x.2) (e : G'.map Prod.fst = G.map Prod.fst) : He K S a s ns M0 M' (L1 ++ (G' ++ L2)) := by
  have inG : ∀ b, b ∈ G.map Prod.fst → M0 b = none ∨ b ∈ s :: S := fun b hb => by
    obtain ⟨x, hx, q⟩ := List.mem_map.mp hb
    exact q ▸ h.hd.fr x (List.mem_append_right _ (List.mem_append_left _ hx))
  have old : ∀ b o, b ∉ s :: S → M0 b = some o → b ∉ G.map Prod.fst := fun b o nb hb hm => by
    rcases inG b hm with q | q
    · rw [q] at hb; cases hb
    · exact nb q
  have sn : s ∉ G.map Prod.fst := fun hm => h.sn (by rw [List.map_append, List.map_append]; exact List.mem_append_right _ (List.mem_append_left _ hm))
  have nd := h.hd.nd
  rw [List.map_append, List.map_append] at nd
  have n1 := List.nodup_append.mp nd
  have n2 := List.nodup_append.mp n1.2.1
  refine ⟨?_, ⟨fun b u nb hb => ?_, fun x hx => ?_, fun x hx => ?_, ?_⟩, ?_, h.sc⟩
  · obtain ⟨i, c, m, g1, g2, g3, g4⟩ := h.env.src
    refine ⟨?_, ⟨i, c, m, hk _ _ sn g1, g2, g3, g4⟩, h.env.len, h.env.bits⟩
    rcases h.sc with q | ⟨q, u, hu⟩
    · exact .inr q
    have an := old a u q hu
    rcases h.env.rd0 with ⟨n, f | f⟩ | f
    · exact .inl ⟨n, .inl (hk _ _ an f)⟩
    · exact .inl ⟨n, .inr (hk _ _ an f)⟩
    · exact .inr f
  · exact hk _ _ (old b u nb hb) (h.hd.kp b u nb hb)
  · rcases List.mem_append.mp hx with hx | hx
    · exact hk _ _ (fun hm => n1.2.2 _ (List.mem_map_of_mem hx) _ (List.mem_append_left _ hm) rfl) (h.hd.ats x (List.mem_append_left _ hx))
    rcases List.mem_append.mp hx with hx | hx
    · exact hG x hx
    · exact hk _ _ (fun hm => n2.2.2 _ hm _ (List.mem_map_of_mem hx) rfl) (h.hd.ats x (List.mem_append_right _ (List.mem_append_right _ hx)))
  · rcases List.mem_append.mp hx with hx | hx
    · exact h.hd.fr x (List.mem_append_left _ hx)
    rcases List.mem_append.mp hx with hx | hx
    · exact inG _ (e ▸ List.mem_map_of_mem hx)
    · exact h.hd.fr x (List.mem_append_right _ (List.mem_append_right _ hx))
  · rw [List.map_append, List.map_append, e]; exact nd
  · have := h.sn
    rw [List.map_append, List.map_append] at this ⊢
    rw [e]; exact this
/-- a new object, known behind a call that adds alone -/
theorem He.addn (h : He K S a s ns M0 M L) (k : Sub M M') (hp : M p = none) (hp' : M' p = some o) : He K S a s ns M0 M' ((p, o) :: L) := by
  refine (h.new (o := o) hp).step fun b u e => ?_
  by_cases q : b = p
  · subst q; rw [updM_same] at e; cases e; exact hp'
  · rw [updM_ne q] at e; exact k b u e
theorem He.adds (h : He K S a s ns M0 M L) (k : Sub M M') {N : List (Addr × MO)} (hN : ∀ x ∈ N, M x.1 = none ∧ M' x.1 = some x.2) (nd : (N.map Prod.fst).Nodup) : He K S a s ns M0 M' (N ++ L) := by
  have h2 := h.step k
  refine ⟨h2.env, ⟨h2.hd.kp, fun x hx => ?_, fun x hx => ?_, ?_⟩, ?_, h.sc⟩
  · rcases List.mem_append.mp hx with hx | hx
    · exact (hN x hx).2
    · exact h2.hd.ats x hx
  · rcases List.mem_append.mp hx with hx | hx
    · by_cases q : x.1 ∈ s :: S
      · exact .inr q
      · left
        cases e : M0 x.1 with
        | none => rfl
        | some u => have := h.hd.kp _ _ q e; rw [(hN x hx).1] at this; cases this
    · exact h2.hd.fr x hx
  · rw [List.map_append]
    refine List.nodup_append.mpr ⟨nd, h2.hd.nd, fun y hy z hz e => ?_⟩
    obtain ⟨x, hx, rfl⟩ := List.mem_map.mp hy
    obtain ⟨v, hv, q⟩ := List.mem_map.mp hz
    have := h.hd.ats v hv
    rw [q, ← e, (hN x hx).1] at this; cases this
  · rw [List.map_append]
    intro hm
    rcases List.mem_append.mp hm with hm | hm
    · obtain ⟨x, hx, q⟩ := List.mem_map.mp hm
      obtain ⟨i, c, m, g1, _⟩ := h.env.src
      rw [← q, (hN x hx).1] at g1; cases g1
    · exact h2.sn hm
/-- more that may change from here on -/
theorem He.more (h : He K S a s ns M M L) {N : List (Addr × MO)} (hN : ∀ x ∈ N, M x.1 = some x.2 ∧ x.1 ∉ s :: S) (hS : ∀ x ∈ L, x.1 ∈ s :: S) (nd : (N.map Prod.fst).Nodup) (na : ∀ x ∈ N, KL K a (ns.map PV.int) ∨ x.1 ≠ a) : He K (S ++ N.map Prod.fst) a s ns M M (L ++ N) := by
  refine ⟨h.env, ⟨fun _ _ _ e => e, fun x hx => ?_, fun x hx => .inr ?_, ?_⟩, ?_, ?_⟩
  · rcases List.mem_append.mp hx with hx | hx
    · exact h.hd.ats x hx
    · exact (hN x hx).1
  · rcases List.mem_append.mp hx with hx | hx
    · rcases List.mem_cons.mp (hS x hx) with q | q
      · rw [q]; exact List.mem_cons_self
      · exact List.mem_cons_of_mem _ (List.mem_append_left _ q)
    · exact List.mem_cons_of_mem _ (List.mem_append_right _ (List.mem_map_of_mem hx))
  · rw [List.map_append]
    refine List.nodup_append.mpr ⟨h.hd.nd, nd, fun y hy z hz e => ?_⟩
    obtain ⟨x, hx, rfl⟩ := List.mem_map.mp hy
    obtain ⟨v, hv, q⟩ := List.mem_map.mp hz
    exact (hN v hv).2 (by rw [q, ← e]; exact hS x hx)
  · rw [List.map_append]
    intro hm
    rcases List.mem_append.mp hm with hm | hm
    · exact h.sn hm
    · obtain ⟨x, hx, q⟩ := List.mem_map.mp hm
      exact (hN x hx).2 (by rw [q]; exact List.mem_cons_self)
  · rcases h.sc with q | ⟨q, u, hu⟩
    · exact .inl q
    by_cases kl : KL K a (ns.map PV.int)
    · exact .inl kl
    refine .inr ⟨fun hm => ?_, u, hu⟩
    rcases List.mem_cons.mp hm with e | hm
    · exact q (e ▸ List.mem_cons_self)
    rcases List.mem_append.mp hm with hm | hm
    · exact q (List.mem_cons_of_mem _ hm)
    · obtain ⟨x, hx, e⟩ := List.mem_map.mp hm
      rcases na x hx with f | f
      · exact kl f
      · exact f e
/-- new lists -/
theorem al {R : Addr → Prop} (h : He K S a s ns M0 M L) (k : ∀ p, M p = none → (∀ o, He K S a s ns M0 (updM M p o) ((p, o) :: L)) → R p) : ∀ p, M p = none → R p := fun p hp => k p hp fun _ => h.new hp
theorem ald {R : Addr → Prop} (h : Hd S M0 M L) (k : ∀ p, M p = none → (∀ o, Hd S M0 (updM M p o) ((p, o) :: L)) → R p) : ∀ p, M p = none → R p := fun p hp => k p hp fun _ => h.new hp
/-- a draw -/
theorem dr {l : Int} {R : Int → PHp → Prop} (h : He K S a s ns M0 M L) (h0 : 0 < l) (hb : intBits l ≤ 64) (k : ∀ r M', 0 ≤ r → r < l → He K S a s ns M0 M' L → R r M') :
    ∃ (a' s' : Addr) (ns' : List Int) (l' : Int), [PV.ref a, .ref s, .int l] = [.ref a', .ref s', .int l'] ∧ Env K M a' s' ns' ∧ 0 < l' ∧ intBits l' ≤ 64 ∧ ∀ r M', 0 ≤ r → r < l' → Env K M' a' s' ns' → Keep s' M M' → R r M' :=
  ⟨a, s, ns, l, rfl, h.env, h0, hb, fun r M' h1 h2 e k' => k r M' h1 h2 (h.call e k')⟩
end
theorem ixN_of {n j : Nat} (h : j < n) : ixN n (j : Int) = some j := by
  unfold ixN
  rw [if_pos (by omega), if_pos (by omega)]; rfl
/-! shapes of questions -/
section
variable {K : Kf} {M : PHp} {a : Addr} {l xs : List PV} {i j : Int} {k : Nat} {A B : Prop} {b : Bool}
theorem shp_br (h : br b A B) : br b A B := h
theorem shp_ixl {R : PV → Prop} (h : ∃ l, rdL K M a l ∧ ∃ v, atI l i = some v ∧ R v) : ∃ l, rdL K M a l ∧ ∃ v, atI l i = some v ∧ R v := h
theorem shp_ixt {R : PV → Prop} (h : ∃ v, atI l i = some v ∧ R v) : ∃ v, atI l i = some v ∧ R v := h
theorem shp_rd {R : List PV → Prop} (h : ∃ l, rdL K M a l ∧ R l) : ∃ l, rdL K M a l ∧ R l := h
theorem shp_set {R : List PV → Nat → Prop} (h : ∃ xs j, M a = some (.lst xs) ∧ ixN xs.length i = some j ∧ R xs j) : ∃ xs j, M a = some (.lst xs) ∧ ixN xs.length i = some j ∧ R xs j := h
theorem shp_sz (h : xs.length ≤ sizeLine ∧ B) : xs.length ≤ sizeLine ∧ B := h
theorem shp_mul (h : IntMulOk i j ∧ B) : IntMulOk i j ∧ B := h
theorem shp_ne (h : j ≠ 0 ∧ B) : j ≠ 0 ∧ B := h
theorem shp_pow (h : (0 ≤ j ∧ j ≤ 1000000 ∧ i.natAbs < 2 ^ 64) ∧ B) : (0 ≤ j ∧ j ≤ 1000000 ∧ i.natAbs < 2 ^ 64) ∧ B := h
theorem shp_kit {t s : String} (h : isiKit t s = true ∧ B) : isiKit t s = true ∧ B := h
theorem shp_tup (h : xs.length = k ∧ B) : xs.length = k ∧ B := h
theorem shp_ty {T : String} {x : PV} (h : tyP K T x M ∧ B) : tyP K T x M ∧ B := h
theorem shp_isi {p : PV} {n : String} {R : String → Prop} (h : ∃ t, tyName K M p t ∧ isiKit t n = true ∧ R t) : ∃ t, tyName K M p t ∧ isiKit t n = true ∧ R t := h
end
/-! instances -/
section
variable {K : Kf} {M : PHp} {a C dx : Addr} {fs fs' : List (Str × PV)} {f : Str} {v : PV} {B : Prop}
theorem shp_fld {R : PV → Prop} (h : ∃ C dx fs v, M a = some (.ins C dx fs) ∧ FldOk K C f ∧ fs.lookup f = some v ∧ R v) : ∃ C dx fs v, M a = some (.ins C dx fs) ∧ FldOk K C f ∧ fs.lookup f = some v ∧ R v := h
theorem g_fld {R : PV → Prop} (h : M a = some (.ins C dx fs)) (ok : FldOk K C f) (l : fs.lookup f = some v) (q : R v) : ∃ C dx fs v, M a = some (.ins C dx fs) ∧ FldOk K C f ∧ fs.lookup f = some v ∧ R v := ⟨_, _, _, _, h, ok, l, q⟩
theorem shp_fls {R : Addr → Addr → List (Str × PV) → Prop} (h : ∃ C dx fs fs', M a = some (.ins C dx fs) ∧ FldOk K C f ∧ fs.length < 1000 ∧ fs' = putX f v fs ∧ R C dx fs') : ∃ C dx fs fs', M a = some (.ins C dx fs) ∧ FldOk K C f ∧ fs.length < 1000 ∧ fs' = putX f v fs ∧ R C dx fs' := h
theorem g_fls {R : Addr → Addr → List (Str × PV) → Prop} (h : M a = some (.ins C dx fs)) (ok : FldOk K C f) (l : fs.length < 1000) (e : fs' = putX f v fs) (q : R C dx fs') : ∃ C dx fs fs', M a = some (.ins C dx fs) ∧ FldOk K C f ∧ fs.length < 1000 ∧ fs' = putX f v fs ∧ R C dx fs' := ⟨_, _, _, _, h, ok, l, e, q⟩
theorem shp_mth (h : (∃ dx fs, M a = some (.ins C dx fs) ∧ fs.lookup f = none) ∧ B) : (∃ dx fs, M a = some (.ins C dx fs) ∧ fs.lookup f = none) ∧ B := h
theorem g_mth (h : ∃ dx fs, M a = some (.ins C dx fs) ∧ fs.lookup f = none) (q : B) : (∃ dx fs, M a = some (.ins C dx fs) ∧ fs.lookup f = none) ∧ B := ⟨h, q⟩
theorem shp_prp (h : (∃ dx fs, M a = some (.ins C dx fs)) ∧ B) : (∃ dx fs, M a = some (.ins C dx fs)) ∧ B := h
theorem g_prp (h : ∃ dx fs, M a = some (.ins C dx fs)) (q : B) : (∃ dx fs, M a = some (.ins C dx fs)) ∧ B := ⟨h, q⟩
end

local macro_rules | `(tactic| walk_at "w") => `(tactic| (conv => whnf))
local macro_rules | `(tactic| walk_at "as") => `(tactic| with_reducible assumption)
local macro_rules | `(tactic| walk_at "ix") => `(tactic| first
  | exact He.g0 (by walk_at "as")
  | exact He.g1 (by walk_at "as")
  | exact He.g2 (by walk_at "as")
  | exact He.g3 (by walk_at "as")
  | exact He.g4 (by walk_at "as")
  | exact He.g5 (by walk_at "as")
  | exact Hd.g0 (by walk_at "as")
  | exact Hd.g1 (by walk_at "as")
  | exact Hd.g2 (by walk_at "as")
  | exact Hd.g3 (by walk_at "as"))
local macro_rules | `(tactic| walk_at "nin") => `(tactic| first
  | walk_at "as"
  | (simp only [List.mem_cons, List.not_mem_nil, or_false, not_or]; refine ⟨?_, ?_⟩ <;> assumption)
  | (simp only [List.mem_cons, List.not_mem_nil, or_false]; assumption)
  | simp)
local macro_rules | `(tactic| walk_at "hp") => `(tactic| first
  | walk_at "as"
  | exact updM_same
  | walk_at "ix"
  | exact He.old (by walk_at "as") (by walk_at "nin") (by walk_at "as")
  | exact Hd.kp (by walk_at "as") _ _ (by walk_at "nin") (by walk_at "as")
  | assumption
  | (rw [updM_ne (by assumption)]; assumption)
  | (rw [updM_ne (Ne.symm (by assumption))]; assumption))
local macro_rules | `(tactic| walk_at "rd") => `(tactic| first
  | assumption
  | exact .inl (by walk_at "hp")
  | exact He.rd (by walk_at "as")
  | exact Env.rd (by assumption))
local macro_rules | `(tactic| walk_at "keep") => `(tactic| first | assumption | exact Keep.refl _ _ | (refine Keep.put1 ?_; walk_at "keep") | (refine Keep.new1 ?_ (by assumption); walk_at "keep") | (refine Keep.trans ?_ (by assumption); walk_at "keep"))
local macro_rules | `(tactic| walk_at "he") => `(tactic| first
  | assumption
  | exact He.up0 (by walk_at "he")
  | exact He.up1 (by walk_at "he")
  | exact He.up2 (by walk_at "he")
  | exact He.up3 (by walk_at "he")
  | exact He.up4 (by walk_at "he")
  | exact He.new (by walk_at "he") (by walk_at "as"))
local macro_rules | `(tactic| walk_at "hd") => `(tactic| first
  | assumption
  | exact Hd.up0 (by walk_at "hd")
  | exact Hd.up1 (by walk_at "hd")
  | exact Hd.up2 (by walk_at "hd")
  | exact Hd.up3 (by walk_at "hd")
  | exact Hd.up4 (by walk_at "hd")
  | exact Hd.new (by walk_at "hd") (by walk_at "as"))
local macro_rules | `(tactic| walk_at "lk") => `(tactic| first | exact lk_hit | exact lk_nil | exact lk_miss (by decide +kernel) (by walk_at "lk"))
local macro_rules | `(tactic| walk_at "px") => `(tactic| first | exact px_hit | exact px_nil | exact px_miss (by decide +kernel) (by walk_at "px"))
local macro_rules | `(tactic| walk_at "subs") => `(tactic| repeat (first | exact SubS.nil | refine SubS.same ?_ | refine SubS.none ?_))
local macro_rules | `(tactic| walk_at "p1") => `(tactic| (conv => whnf) <;> first
  | refine stp ?_
  | ((with_reducible refine shp_br ?_); first
    | (with_reducible refine br_tt ?_)
    | (with_reducible refine br_ff ?_)
    | (with_reducible refine br_nt ?_)
    | (with_reducible refine br_nf ?_)
    | (with_reducible refine br_i1 (by decide) ?_)
    | (with_reducible refine br_i0 (by decide) ?_)
    | (with_reducible refine br_n1 (by decide) ?_)
    | (with_reducible refine br_n0 (by decide) ?_))
  | ((with_reducible refine shp_sz ?_); refine g_sz (szl rfl) ?_)
  | ((with_reducible refine shp_ixl ?_); refine g_ixl (by walk_at "rd") (by first | exact rfl | assumption) ?_)
  | ((with_reducible refine shp_ixt ?_); first
    | refine g_ixt rfl ?_
    | refine g_ixt (by assumption) ?_)
  | ((with_reducible refine shp_rd ?_); refine g_rd (by walk_at "rd") ?_)
  | ((with_reducible refine shp_set ?_); refine g_set (by walk_at "hp") rfl ?_)
  | ((with_reducible refine shp_mul ?_); first
    | refine g_mul (IntMulOk.of_right (by decide)) ?_
    | refine g_mul (IntMulOk.of_left (by decide)) ?_
    | refine g_mul (by assumption) ?_)
  | ((with_reducible refine shp_ne ?_); first
    | refine g_ne (by decide) ?_
    | refine g_ne (by first | assumption | omega) ?_)
  | ((with_reducible refine shp_pow ?_); refine g_pow (by decide) ?_)
  | ((with_reducible refine shp_kit ?_); refine g_kit (by decide) ?_)
  | ((with_reducible refine shp_tup ?_); refine g_tup rfl ?_)
  | ((with_reducible refine shp_isi ?_); first
    | (refine g_isiL (by walk_at "hp") (by decide) ?_)
    | (refine g_isiD (by walk_at "hp") (by decide) ?_))
  | (with_reducible refine g_ins ?_)
  | (with_reducible refine g_ini ?_)
  | ((with_reducible refine shp_fld ?_); refine g_fld (by walk_at "hp") (by walk_at "as") (by walk_at "lk") ?_)
  | ((with_reducible refine shp_fls ?_); refine g_fls (by walk_at "hp") (by walk_at "as") (Nat.le_of_ble_eq_true rfl) (by walk_at "px") ?_)
  | ((with_reducible refine shp_mth ?_); refine g_mth ⟨_, _, (by walk_at "hp"), (by walk_at "lk")⟩ ?_)
  | ((with_reducible refine shp_prp ?_); refine g_prp ⟨_, _, (by walk_at "hp")⟩ ?_)
  | ((with_reducible refine shp_ty ?_); refine g_ty (.inl ⟨rfl, _, (by walk_at "rd")⟩) ?_))
local macro_rules | `(tactic| walk_at "on") => `(tactic| ((repeat walk_at "p1"); (try (conv => whnf))))
local macro_rules | `(tactic| walk_at "go") => `(tactic| ((try dsimp only [defCx, defCxR, Cx.nox, Cx.wish, cxOf]); walk_at "on"))

theorem ok__law_draw {P : Program} {w : World} {K : Kf} {mg : Str → Option Value} {base : Heap} (h0 : Here K mg "_law_draw" s__law_draw ["script", "source", "limit"]) (T : Blt mg) (XC : Xc K mg) (Su : Sure P base)  : Callee P w K mg base 34 "_law_draw" ["script", "source", "limit"] (sp__law_draw K) := by
  refine ok_of h0 sc__law_draw (fun vs M Q E h => sp__law_draw_len h) (fun f cdv A outer s H E hr => ⟨_, (psscut (psif (PW.pt (pwand (ptcmp (opEqK (K := K) (by exact hr.units)) (pixK (K := K) (pv 1) pinT) pinT (nomark _)) (pwand1 (ptcmp (opLt (by exact hr.units0)) (pixK (K := K) (pv 1) pinT) (pcallB (cLenK (K := K)) (by rfl) T.b_len (by decide +kernel) (pacons (pv 0) panil)) (nomark _))))) (psscons (psset 3 sc__law_draw.nd (pcallB cAbs (by rfl) T.b_abs (by decide +kernel) (pacons (pixK (K := K) (pv 0) (pixK (K := K) (pv 1) pinT)) panil)))
      (psscons (psasg (pop opAdd (pixK (K := K) (pv 1) pinT) pinT) (pgsub (pv 1) pinT))
      (psscons (psif (ptcmp (opLt (by exact hr.units0)) (pv 3) (pop opPow pinT pinT) (nomark _)) (psscons (psset 3 sc__law_draw.nd (pop opMod (pcallTy cInt (by rfl) T.b_int (by decide +kernel) (pacons (pop opAdd (pop opAdd (pop opMul (pv 3) pinT) (pop opMul (pixK (K := K) (pv 1) pinT) pinT)) (pixK (K := K) (pv 1) pinT)) panil)) pinT))
      (pssone (psset 3 sc__law_draw.nd (pop opMod (pcallTy cInt (by rfl) T.b_int (by decide +kernel) (pacons (pop opAdd (pop opAdd (pop opMul (pv 3) (pv 3)) (pop opMul (pv 3) pinT)) (pixK (K := K) (pv 1) pinT)) panil)) pinT)))) pssnil)
      (pssone (psasg (pv 3) (pgsub (pv 1) pinT)))))) pssnil)
      (psscons (psif (ptcmp opGt (pixK (K := K) (pv 1) pinT) pinT (nomark _)) (psscons (psset 4 sc__law_draw.nd (pop opMod (pcallTy cInt (by rfl) T.b_int (by decide +kernel) (pacons (pixK (K := K) (pv 1) pinT) panil)) (pv 2)))
      (psscons (psasg (pop (opFdiv Su (by exact hr.mono (by first | decide | omega))) (pixK (K := K) (pv 1) pinT) (pv 2)) (pgsub (pv 1) pinT))
      (pssone (psret (pv 4))))) pssnil)
      (psscons (psasg (pop opMod (pcallTy cInt (by rfl) T.b_int (by decide +kernel) (pacons (pop opAdd (pop opMul (pixK (K := K) (pv 1) pinT) pinT) pinT) panil)) pinT) (pgsub (pv 1) pinT))
      (pssone (psret (pop opMod (pcallTy cInt (by rfl) T.b_int (by decide +kernel) (pacons (pop (opFdiv Su (by exact hr.mono (by first | decide | omega))) (pixK (K := K) (pv 1) pinT) pinT) panil)) (pv 2))))))), fun vs M Q Ep h => ?_⟩)
  obtain ⟨a, s, ns, l, rfl, e, hl, hb, k⟩ := h
  obtain ⟨i, c, m, hs, hi, hc, hm⟩ := e.src
  refine ⟨fun σ M1 => σ = [some (.ref a), some (.ref s), some (.int l), none, none] ∧ Env K M1 a s ns ∧ Keep s M M1, ?_, ?_⟩
  · walk_at "go"
    refine br_dec (fun h0 => ?_) (fun h0 => ?_)
    · walk_at "on"
      refine br_dec (fun h1 => ?_) (fun h1 => ?_)
      · rw [List.length_map] at h1
        obtain ⟨z, hz1, hz2, hz3⟩ := at_ints hi h1
        walk_at "on"
        refine br_dec (fun h2 => ?_) (fun h2 => ?_)
        · rw [p18] at h2
          walk_at "on"
          refine ⟨small_ok ?_, ?_⟩
          · have f := fm (i := (z.natAbs : Int) * 48271 + (i + 1) * 69621 + m) (j := 2147483647) (by decide)
            omega
          walk_at "on"
          refine ⟨_, _, ⟨?_, .refl _, rfl, e.to (by walk_at "keep") updM_same (by omega) (fm (by decide)).1 hm, by walk_at "keep"⟩⟩
          walk_at "subs"
        · walk_at "on"
          refine ⟨_, _, ⟨?_, .refl _, rfl, e.to (by walk_at "keep") updM_same (by omega) (by omega) hm, by walk_at "keep"⟩⟩
          walk_at "subs"
      · walk_at "on"
        exact ⟨_, _, .refl _, .refl _, rfl, e, .refl _ _⟩
    · walk_at "on"
      exact ⟨_, _, .refl _, .refl _, rfl, e, .refl _ _⟩
  · rintro σ M1 ⟨rfl, e1, k1⟩
    obtain ⟨i, c, m, hs, hi, hc, hm⟩ := e1.src
    walk_at "go"
    refine br_dec (fun h0 => ?_) (fun h0 => ?_)
    · walk_at "on"
      obtain ⟨f1, f2⟩ := fm (i := c) hl
      exact ⟨_, .refl _, k _ _ f1 f2 (e1.to (by walk_at "keep") updM_same hi (fd0 hc hl) hm) (k1.trans (by walk_at "keep"))⟩
    · walk_at "on"
      obtain ⟨f1, f2⟩ := fm (i := (Int.fmod (m * 69621 + 4321) 2147483647).fdiv 97) hl
      exact ⟨_, .refl _, k _ _ f1 f2 (e1.to (by walk_at "keep") updM_same hi hc (fm (by decide)).1) (k1.trans (by walk_at "keep"))⟩

/-- a source is made -/
def sp__law_source (K : Kf) : PSpec := fun vs M Q _ => ∃ (a : Addr) (ns : List Int), vs = [.ref a] ∧ rdL K M a (ns.map PV.int) ∧ ∀ p M' m, M p = none → Sub M M' → M' p = some (SL 0 0 m) → 0 ≤ m → Q (.ref p) M'
theorem sp__law_source_len {K : Kf} {vs : List PV} {M : PHp} {Q : PVK} {E : PXK} (h : sp__law_source K vs M Q E) : vs.length = 1 := by
  obtain ⟨_, _, rfl, _⟩ := h; rfl

theorem ok__law_source {P : Program} {w : World} {K : Kf} {mg : Str → Option Value} {base : Heap} (h0 : Here K mg "_law_source" s__law_source ["script"]) (T : Blt mg) (XC : Xc K mg) (Su : Sure P base)  : Callee P w K mg base 34 "_law_source" ["script"] (sp__law_source K) := by
  refine ok_of h0 sc__law_source (fun vs M Q E h => sp__law_source_len h) (fun f cdv A outer s H E hr => ⟨_, (psscons (psset 1 sc__law_source.nd pinT)
      (psscons (psfor PassesOwn.never rfl (piseqK (K := K) (pv 0)) (pgname (i := 2) sc__law_source.nd) (pssone (psset 1 sc__law_source.nd (pop opMod (pcallTy cInt (by rfl) T.b_int (by decide +kernel) (pacons (pop opAdd (pop opAdd (pop opMul (pv 1) pinT) (pop opMul (pv 2) pinT)) pinT) panil)) pinT))))
      (pssone (psret (plst (pacons pinT (pacons pinT (pacons (pv 1) panil)))))))), fun vs M Q Ep h => ?_⟩)
  obtain ⟨a, ns, rfl, hr1, k⟩ := h
  walk_at "go"
  refine ⟨fun _ σ M' => ∃ m, σ = [some (.ref a), some (.int m), none] ∧ M' = M ∧ 0 ≤ m ∧ m < 2147483647, ⟨_, _, .refl _, .refl _, 20011, rfl, rfl, by decide, by decide⟩, ?_, ?_, ?_⟩
  · rintro _ σ M' ⟨m, rfl, rfl, _⟩
    exact hr1
  · rintro i x σ M' hx ⟨m, rfl, rfl, h0, h1⟩
    rw [List.getElem?_map] at hx
    cases hx2 : ns[i]? with
    | none => rw [hx2] at hx; cases hx
    | some z =>
      rw [hx2] at hx; cases hx
      walk_at "on"
      exact ⟨_, _, by walk_at "subs", .refl _, _, rfl, rfl, fm (by decide)⟩
  · rintro σ M' ⟨m, rfl, rfl, h0, h1⟩
    walk_at "on"
    intro p hp
    exact ⟨_, .refl _, k p _ m hp (.new hp) updM_same h0⟩

theorem fdiv_mul {c x : Int} (h : c ≠ 0) : (c * x).fdiv c = x := by
  rw [Int.mul_comm]; exact Int.mul_fdiv_cancel x h
/-- the greatest common divisor of the numbers -/
def gl (ws : List Int) : Nat := ws.foldl (fun g w => Nat.gcd g w.natAbs) 0
theorem gl_from (ws : List Int) : ∀ g : Nat, ws.foldl (fun g w => Nat.gcd g w.natAbs) g = Nat.gcd g (gl ws) := by
  induction ws with
  | nil => intro g; simp [gl]
  | cons w r ih =>
    intro g
    have h : gl (w :: r) = Nat.gcd (Nat.gcd 0 w.natAbs) (gl r) := by
      show List.foldl _ (Nat.gcd 0 w.natAbs) r = _
      rw [ih]
    rw [List.foldl_cons, ih, h, Nat.gcd_zero_left, Nat.gcd_assoc]
theorem gl_cons (w : Int) (r : List Int) : gl (w :: r) = Nat.gcd w.natAbs (gl r) := by
  show List.foldl _ (Nat.gcd 0 w.natAbs) r = _
  rw [gl_from, Nat.gcd_zero_left]
theorem gl_snoc (r : List Int) (w : Int) : gl (r ++ [w]) = Nat.gcd (gl r) w.natAbs := by
  unfold gl
  rw [List.foldl_append]; rfl
theorem gl_dvd {ws : List Int} : ∀ w ∈ ws, ((gl ws : Nat) : Int) ∣ w := by
  induction ws with
  | nil => intro w h; cases h
  | cons x r ih =>
    intro w h
    rw [gl_cons]
    rcases List.mem_cons.mp h with rfl | h
    · exact Int.natAbs_dvd_natAbs.mp (by rw [Int.natAbs_natCast]; exact Nat.gcd_dvd_left _ _)
    · exact Int.dvd_trans (Int.natAbs_dvd_natAbs.mp (by rw [Int.natAbs_natCast, Int.natAbs_natCast]; exact Nat.gcd_dvd_right _ _)) (ih w h)
theorem gl_mul (g : Int) (ws : List Int) : gl (ws.map (g * ·)) = g.natAbs * gl ws := by
  induction ws with
  | nil => simp [gl]
  | cons x r ih => rw [List.map_cons, gl_cons, gl_cons, ih, Int.natAbs_mul, Nat.gcd_mul_left]
theorem gl_zero {ws : List Int} (h : gl ws = 0) : ∀ w ∈ ws, w = 0 := fun w hw => by
  have := gl_dvd w hw
  rw [h] at this
  exact Int.zero_dvd.mp this
/-- the weights divided by their greatest common divisor -/
inductive IsRed (ws rs : List Int) : Prop
  | zero (h : ∀ w ∈ ws, w = 0) (e : rs = ws)
  | pos (g : Int) (hg : 0 < g) (e : ws = rs.map (g * ·)) (h : gl rs = 1)
theorem isRed_of {ws : List Int} (h : gl ws ≠ 0) : IsRed ws (ws.map fun w => w.fdiv (gl ws : Nat)) := by
  have g0 : ((gl ws : Nat) : Int) ≠ 0 := by omega
  have e : ws = (ws.map fun w => w.fdiv (gl ws : Nat)).map (((gl ws : Nat) : Int) * ·) := by
    rw [List.map_map]
    conv => lhs; rw [← List.map_id ws]
    refine List.map_congr_left fun w hw => ?_
    obtain ⟨x, hx⟩ := gl_dvd w hw
    show w = ((gl ws : Nat) : Int) * w.fdiv _
    conv => rhs; rw [hx, fdiv_mul g0]
    exact hx
  refine .pos (gl ws : Nat) (by omega) e ?_
  have h2 := congrArg gl e
  rw [gl_mul, Int.natAbs_natCast] at h2
  have h3 : gl ws * 1 = gl ws * gl (ws.map fun w => w.fdiv (gl ws : Nat)) := by rw [Nat.mul_one]; exact h2
  exact (Nat.eq_of_mul_eq_mul_left (by omega) h3).symm
theorem IsRed.len {ws rs : List Int} (h : IsRed ws rs) : rs.length = ws.length := by
  cases h with
  | zero h e => rw [e]
  | pos g hg e h => rw [e, List.length_map]
/-- a tuple or a list -/
def SeqV (K : Kf) (M : PHp) (x : PV) (l : List PV) : Prop := x = .tup l ∨ ∃ a, x = .ref a ∧ rdL K M a l
theorem take_succ' {α : Type} {l : List α} {i : Nat} {x : α} (h : l[i]? = some x) : l.take (i + 1) = l.take i ++ [x] := by
  rw [List.take_add_one, h]; rfl
theorem int_at {ns : List Int} {i : Nat} {p : PV} (h : (ns.map PV.int)[i]? = some p) : ∃ z, ns[i]? = some z ∧ p = .int z := by
  rw [List.getElem?_map] at h
  cases e : ns[i]? with
  | none => rw [e] at h; cases h
  | some z => rw [e] at h; exact ⟨z, rfl, (Option.some.inj h).symm⟩
theorem sz_of {n m : Nat} (h : n ≤ m) (hm : m ≤ 1000000) : n < sizeLine := by rw [sizeLine_eq]; omega
theorem lt_of_get {α : Type} {l : List α} {i : Nat} {x : α} (h : l[i]? = some x) : i < l.length := (List.getElem?_eq_some_iff.mp h).1

theorem mod_half {x y : Nat} (h0 : 0 < y) (h : y ≤ x) : 2 * (x % y) ≤ x := by
  have h1 := Nat.div_add_mod x y
  have h2 := Nat.mod_lt x h0
  have h3 : 1 ≤ x / y := (Nat.one_le_div_iff h0).mpr h
  have h4 : y * 1 ≤ y * (x / y) := Nat.mul_le_mul_left _ h3
  omega
theorem gcd_step {x y i b : Nat} (h0 : 0 < y) (h1 : y * 2 ^ (i / 2) ≤ b) (h2 : 0 < i → y < x ∧ x * 2 ^ ((i - 1) / 2) ≤ b) : x % y * 2 ^ ((i + 1) / 2) ≤ b := by
  cases i with
  | zero =>
    have := Nat.mod_lt x h0
    simp at h1 ⊢
    omega
  | succ i =>
    obtain ⟨h3, h4⟩ := h2 (Nat.succ_pos _)
    have e : (i + 1 + 1) / 2 = i / 2 + 1 := by omega
    rw [e, Nat.pow_succ, Nat.mul_comm _ 2, ← Nat.mul_assoc, Nat.mul_comm _ 2]
    exact Nat.le_trans (Nat.mul_le_mul_right _ (mod_half h0 (Nat.le_of_lt h3))) h4
def sp__law_gcd (K : Kf) : PSpec := fun vs M Q _ => ∃ (a b : Nat), vs = [.int a, .int b] ∧ b < 2 ^ 200 ∧ Q (.int (Nat.gcd a b : Nat)) M
theorem sp__law_gcd_len {K : Kf} {vs : List PV} {M : PHp} {Q : PVK} {E : PXK} (h : sp__law_gcd K vs M Q E) : vs.length = 2 := by
  obtain ⟨_, _, rfl, _⟩ := h; rfl

theorem ok__law_gcd {P : Program} {w : World} {K : Kf} {mg : Str → Option Value} {base : Heap} (h0 : Here K mg "_law_gcd" s__law_gcd ["a", "b"]) (T : Blt mg) (XC : Xc K mg) (Su : Sure P base)  : Callee P w K mg base 34 "_law_gcd" ["a", "b"] (sp__law_gcd K) := by
  refine ok_of h0 sc__law_gcd (fun vs M Q E h => sp__law_gcd_len h) (fun f cdv A outer s H E hr => ⟨_, (psscons (psfor PassesOwn.never rfl (pirng1 (by rfl) T.b_range (pacons pinT panil)) (pgname (i := 2) sc__law_gcd.nd) (psscons (psif (ptcmp (opEqK (K := K) (by exact hr.units)) (pv 1) pinT (nomark _)) (pssone (psret (pv 0))) pssnil)
      (pssone (pspar 0 1 rfl sc__law_gcd.nd (pacons (pv 1) (pacons (pop opMod (pcallTy cInt (by rfl) T.b_int (by decide +kernel) (pacons (pv 0) panil)) (pv 1)) panil)) rfl rfl (by decide) (fun _ h => ps_par (by rfl) sc__law_gcd.nd rfl rfl (by decide) rfl rfl h (by rfl))))))
      (pssone (psret (pv 0)))), fun vs M Q Ep h => ?_⟩)
  obtain ⟨a, b, rfl, hb, k⟩ := h
  walk_at "go"
  refine ⟨by decide, ?_⟩
  refine ⟨fun i σ M' => ∃ x y : Nat, σ = [some (.int x), some (.int y), none] ∧ M' = M ∧ Nat.gcd x y = Nat.gcd a b ∧ y * 2 ^ (i / 2) ≤ b ∧ (0 < i → y < x ∧ x * 2 ^ ((i - 1) / 2) ≤ b), ⟨_, _, .refl _, .refl _, a, b, rfl, rfl, rfl, by simp, fun z => absurd z (by decide)⟩, ?_, ?_, ?_⟩
  · intros; trivial
  · rintro i p σ M' hp ⟨x, y, rfl, rfl, hg, h1, h2⟩
    obtain ⟨hi, rfl⟩ := rng_get hp
    walk_at "on"
    refine br_dec (fun h => ?_) (fun h => ?_)
    · walk_at "on"
      have e : y = 0 := by omega
      subst e
      rw [Nat.gcd_zero_right] at hg
      refine ⟨_, .refl _, ?_⟩
      rw [hg]; exact k
    · walk_at "on"
      have e : (x : Int).fmod (y : Int) = ((x % y : Nat) : Int) := by
        rw [Int.fmod_eq_emod_of_nonneg _ (by omega)]; rfl
      rw [e]
      have y0 : 0 < y := by omega
      refine ⟨_, _, ?_, .refl _, y, x % y, rfl, rfl, ?_, gcd_step y0 h1 h2, fun _ => ⟨Nat.mod_lt _ y0, h1⟩⟩
      · walk_at "subs"
      · rw [← hg, Nat.gcd_comm y, ← Nat.gcd_rec, Nat.gcd_comm]
  · rintro σ M' ⟨x, y, rfl, rfl, hg, h1, h2⟩
    walk_at "on"
    have e : y = 0 := by
      rw [rng_len] at h1
      rcases Nat.eq_zero_or_pos y with h | h
      · exact h
      · have h3 : 1 * 2 ^ 200 ≤ y * 2 ^ (Int.toNat 400 / 2) := Nat.mul_le_mul h (Nat.le_refl _)
        omega
    subst e
    rw [Nat.gcd_zero_right] at hg
    refine ⟨_, .refl _, ?_⟩
    rw [hg]; exact k

/-- numbers that are not negative, and not great -/
def Small (ws : List Int) : Prop := ws.length ≤ 1000 ∧ ∀ w ∈ ws, 0 ≤ w ∧ w.natAbs < 2 ^ 200
def sp__law_reduced (K : Kf) : PSpec := fun vs M Q _ => ∃ (x : PV) (ws : List Int), vs = [x] ∧ SeqV K M x (ws.map PV.int) ∧ Small ws ∧ ∀ rs, IsRed ws rs → Q (.tup (rs.map PV.int)) M
theorem sp__law_reduced_len {K : Kf} {vs : List PV} {M : PHp} {Q : PVK} {E : PXK} (h : sp__law_reduced K vs M Q E) : vs.length = 1 := by
  obtain ⟨_, _, rfl, _⟩ := h; rfl
theorem gl_le {ws : List Int} {w : Int} (h : w ∈ ws) (h0 : w ≠ 0) : gl ws ≤ w.natAbs := by
  have := Int.natAbs_dvd_natAbs.mpr (gl_dvd w h)
  rw [Int.natAbs_natCast] at this
  exact Nat.le_of_dvd (by omega) this
theorem gl_small {ws : List Int} (h : ∀ w ∈ ws, 0 ≤ w ∧ w.natAbs < 2 ^ 200) : gl ws < 2 ^ 200 := by
  by_cases hz : gl ws = 0
  · omega
  · have : ∃ w ∈ ws, w ≠ 0 := by
      apply Classical.byContradiction
      intro hn
      apply hz
      have : ∀ w ∈ ws, w = 0 := fun w hw => Classical.byContradiction fun h => hn ⟨w, hw, h⟩
      clear hn hz h
      induction ws with
      | nil => rfl
      | cons x r ih =>
        rw [gl_cons, ih fun w hw => this w (List.mem_cons_of_mem _ hw), this x List.mem_cons_self]; rfl
    obtain ⟨w, hw, h0⟩ := this
    exact Nat.lt_of_le_of_lt (gl_le hw h0) (h w hw).2

theorem ok__law_reduced {P : Program} {w : World} {K : Kf} {mg : Str → Option Value} {base : Heap} (h0 : Here K mg "_law_reduced" s__law_reduced ["weights"]) (T : Blt mg) (XC : Xc K mg) (Su : Sure P base) (C__law_gcd : Callee P w K mg base 34 "_law_gcd" ["a", "b"] (sp__law_gcd K)) : Callee P w K mg base 35 "_law_reduced" ["weights"] (sp__law_reduced K) := by
  refine ok_of h0 sc__law_reduced (fun vs M Q E h => sp__law_reduced_len h) (fun f cdv A outer s H E hr => ⟨_, (psscons (psset 1 sc__law_reduced.nd pinT)
      (psscut (psfor PassesOwn.never rfl (piseqK (K := K) (pv 0)) (pgname (i := 2) sc__law_reduced.nd) (pssone (psset 1 sc__law_reduced.nd (pcall C__law_gcd (by exact hr.mono (by first | decide | omega)) (pacons (pv 2) (pacons (pv 1) panil))))))
      (psscons (psif (ptcmp (opEqK (K := K) (by exact hr.units)) (pv 1) pinT (nomark _)) (pssone (psret (pcallTy (cTupleK (K := K)) (by rfl) T.b_tuple (by decide +kernel) (pacons (pv 0) panil)))) pssnil)
      (pssone (psret (pcallTy (cTupleK (K := K)) (by rfl) T.b_tuple (by decide +kernel) (pacons (plc1 2 rfl sc__law_reduced.nd (piseqK (K := K) (pv 0)) (blkOk_by (own := [("weight", 2)]) (N := ["weights", "common", "weight"]) (sc := defScope s__law_reduced) (by decide +kernel)) (by decide) (fun _ _ _ _ _ => pg_name (i := 2) sc__law_reduced.nd rfl (Or.inl rfl)) (fun _ _ _ _ _ => ptsnil) (fun _ _ _ _ _ => (pop (opFdiv Su (by exact hr.mono (by first | decide | omega))) (pv 2) (pv 1)))) panil))))))), fun vs M Q Ep h => ?_⟩)
  obtain ⟨x, ws, rfl, hx, ⟨hl, hsm⟩, k⟩ := h
  rcases hx with hx | ⟨a, hx, hr1⟩
  all_goals
    walk_at "go"
    refine ⟨fun σ M1 => σ = [some x, some (.int (gl ws : Nat)), none] ∧ M1 = M, ?_, ?_⟩
    · obtain ⟨y, hy⟩ : ∃ y, y = x := ⟨_, rfl⟩
      subst hx
      walk_at "on"
      refine ⟨fun i σ M1 => σ = [some y, some (.int (gl (ws.take i) : Nat)), none] ∧ M1 = M, ⟨_, _, .refl _, .refl _, by subst hy; rfl, rfl⟩, ?_, ?_, ?_⟩
      · rintro i σ M1 ⟨rfl, rfl⟩
        first | trivial | assumption
      · rintro i p σ M1 hp ⟨rfl, rfl⟩
        subst hy
        obtain ⟨z, hz, rfl⟩ := int_at hp
        have hmem := List.mem_of_getElem? hz
        obtain ⟨z0, zb⟩ := hsm z hmem
        obtain ⟨n, rfl⟩ : ∃ n : Nat, z = (n : Int) := ⟨z.toNat, by omega⟩
        walk_at "on"
        refine ⟨n, gl (ws.take i), rfl, gl_small fun w hw => hsm w (List.mem_of_mem_take hw), ?_⟩
        walk_at "on"
        refine ⟨_, _, ?_, .refl _, rfl, rfl⟩
        rw [take_succ' hz, gl_snoc, Int.natAbs_natCast, Nat.gcd_comm]
        walk_at "subs"
      · rintro σ M1 ⟨rfl, rfl⟩
        subst hy
        refine ⟨_, _, .refl _, .refl _, ?_, rfl⟩
        rw [List.length_map, List.take_length]
    · rintro σ M1 ⟨rfl, rfl⟩
      subst hx
      walk_at "on"
      refine br_dec (fun h0 => ?_) (fun h0 => ?_)
      · walk_at "on"
        exact ⟨_, .refl _, k ws (.zero (gl_zero (by omega)) rfl)⟩
      · walk_at "on"
        intro Dl hD
        refine ⟨fun i acc M' => M' = updM M1 Dl (.lst acc) ∧ acc = ((ws.take i).map fun w => PV.int (w.fdiv (gl ws : Nat))), ⟨_, .refl _, rfl, rfl⟩, ?_, ?_, ?_⟩
        · rintro i acc M' ⟨rfl, rfl⟩
          first | trivial | exact rdL.sub (by assumption) (.new hD)
        · rintro i p acc M' hp ⟨rfl, rfl⟩
          obtain ⟨z, hz, rfl⟩ := int_at hp
          have hi := lt_of_get hz
          walk_at "on"
          refine ⟨updM_same, sz_of (m := 1000) (by rw [List.length_map, List.length_take]; omega) (by decide), _, .refl _, updM_updM, ?_⟩
          rw [take_succ' hz, List.map_append]; rfl
        · rintro acc M' ⟨rfl, rfl⟩
          walk_at "on"
          refine ⟨M1, .new hD, ?_⟩
          rw [List.length_map, List.take_length]
          have := k _ (isRed_of (ws := ws) (by omega))
          rw [List.map_map] at this
          exact this

def lowC : List Nat := (List.range 26).map (97 + ·)
def signC : List Nat := lowC ++ (List.range 10).map (48 + ·)
/-- a name as the law draws one -/
structure Nm (x : Str) : Prop where
  ex : ∃ c r, x.cps.toList = c :: r ∧ c ∈ lowC ∧ (∀ d ∈ r, d ∈ signC) ∧ r.length ≤ 5
theorem rdL.keep {K : Kf} {M M' : PHp} {u s : Addr} {l : List PV} (h : rdL K M u l) (n : u ≠ s) (k : Keep s M M') : rdL K M' u l := by
  rcases h with h | h | h
  · exact .inl (k _ _ n h)
  · exact .inr (.inl (k _ _ n h))
  · exact .inr (.inr h)
theorem at_mem {α : Type} {l : List α} {i : Int} (h0 : 0 ≤ i) (h1 : i < (l.length : Int)) : ∃ c, c ∈ l ∧ l[i.toNat]? = some c ∧ atI l i = some c := by
  obtain ⟨j, rfl⟩ : ∃ j : Nat, i = (j : Int) := ⟨i.toNat, by omega⟩
  have h : j < l.length := by omega
  exact ⟨l[j], List.getElem_mem h, List.getElem?_eq_getElem h, atI_nat (List.getElem?_eq_getElem h)⟩
theorem let_cps : ("abcdefghijklmnopqrstuvwxyz" : Str).cps.toList = lowC := by decide +kernel
theorem sig_cps : (("abcdefghijklmnopqrstuvwxyz" : Str) ++ ("0123456789" : Str)).cps.toList = signC := by decide +kernel
theorem cps_app (x y : Str) : (x ++ y).cps.toList = x.cps.toList ++ y.cps.toList := Array.toList_append
theorem str_len (x : Str) : x.length = x.cps.toList.length := rfl
theorem str_len_le {x : Str} {n : Nat} (h : x.cps.toList.length ≤ n) (hn : n ≤ 1000) : x.length ≤ sizeLine := by rw [str_len, sizeLine_eq]; omega
theorem app_len {x y : Str} {n m : Nat} (h : x.cps.toList.length ≤ n) (h2 : y.cps.toList.length ≤ m) (hn : n + m ≤ 1000) : x.length + y.length ≤ sizeLine := by rw [str_len, str_len, sizeLine_eq]; omega
/-- the name's end -/
def numS (k : Nat) : Str := Str.ofString (toString (k : Int))
theorem num_ok : ∀ k < 64, (numS k).cps.toList.length ≤ 2 ∧ ∀ d ∈ (numS k).cps.toList, d ∈ signC := by decide +kernel
theorem num_ne : ∀ i < 64, ∀ j < 64, numS i = numS j → i = j := by decide +kernel
theorem app_inj {x y z : Str} (h : x ++ y = x ++ z) : y = z := by
  have h2 := congrArg (fun s : Str => s.cps.toList) h
  simp only [cps_app] at h2
  have h3 := List.append_cancel_left h2
  cases y; cases z
  simp only [Str.mk.injEq]
  exact Array.toList_inj.mp h3
/-- the base, then base0, base1, .. -/
def cand (b : Str) (i : Nat) : Str := match i with | 0 => b | i + 1 => b ++ numS i
theorem cand_inj {b : Str} {i j : Nat} (hi : i ≤ 64) (hj : j ≤ 64) (h : cand b i = cand b j) : i = j := by
  have key : ∀ k, k < 64 → b ≠ b ++ numS k := fun k hk e => by
    have h2 := congrArg (fun s : Str => s.cps.toList.length) e
    simp only [cps_app, List.length_append] at h2
    have : ∀ k < 64, 0 < (numS k).cps.toList.length := by decide +kernel
    have := this k hk
    omega
  match i, j with
  | 0, 0 => rfl
  | 0, j + 1 => exact absurd h (key j (by omega))
  | i + 1, 0 => exact absurd h.symm (key i (by omega))
  | i + 1, j + 1 => rw [num_ne i (by omega) j (by omega) (app_inj h)]
theorem pigeon {α : Type} [BEq α] [LawfulBEq α] (f : Nat → α) : ∀ (n : Nat) (us : List α), (∀ i j, i < n → j < n → f i = f j → i = j) → (∀ i, i < n → f i ∈ us) → n ≤ us.length
  | 0, _, _, _ => Nat.zero_le _
  | n + 1, us, inj, h => by
    have hm := h n (Nat.lt_succ_self n)
    have := pigeon f n (us.erase (f n)) (fun i j hi hj e => inj i j (by omega) (by omega) e) fun i hi => by
      rw [List.mem_erase_of_ne]
      · exact h i (by omega)
      · intro e
        have := inj i n (by omega) (by omega) e
        omega
    rw [List.length_erase_of_mem hm] at this
    have := List.length_pos_of_mem hm
    omega
/-- one of the first names is not used -/
theorem cand_free {b : Str} {us : List Str} {n : Nat} (hn : us.length < n) (h64 : n ≤ 64) (h : ∀ i < n, cand b i ∈ us) : False := by
  have := pigeon (cand b) n us (fun i j hi hj e => cand_inj (by omega) (by omega) e) h
  omega
structure Nb (x : Str) : Prop where
  ex : ∃ c r, x.cps.toList = c :: r ∧ c ∈ lowC ∧ (∀ d ∈ r, d ∈ signC) ∧ r.length ≤ 3
theorem Nb.cand {b : Str} (h : Nb b) {i : Nat} (hi : i ≤ 64) : Nm (cand b i) := by
  obtain ⟨c, r, e, h1, h2, h3⟩ := h.ex
  cases i with
  | zero => exact ⟨c, r, e, h1, h2, by omega⟩
  | succ i =>
    obtain ⟨n1, n2⟩ := num_ok i (by omega)
    refine ⟨c, r ++ (numS i).cps.toList, ?_, h1, fun d hd => ?_, ?_⟩
    · show (b ++ numS i).cps.toList = _
      rw [cps_app, e]; rfl
    · rcases List.mem_append.mp hd with q | q
      · exact h2 d q
      · exact n2 d q
    · rw [List.length_append]; omega
def sp__law_name (K : Kf) : PSpec := fun vs M Q _ => ∃ (a s u : Addr) (ns : List Int) (us : List Str), vs = [.ref a, .ref s, .ref u] ∧ Env K M a s ns ∧ rdL K M u (us.map PV.str) ∧ u ≠ s ∧ us.length ≤ 62 ∧
  ∀ x M', Nm x → x ∉ us → Env K M' a s ns → Keep s M M' → Q (.str x) M'
theorem sp__law_name_len {K : Kf} {vs : List PV} {M : PHp} {Q : PVK} {E : PXK} (h : sp__law_name K vs M Q E) : vs.length = 3 := by
  obtain ⟨_, _, _, _, _, rfl, _⟩ := h; rfl
theorem names6 {r : Int} (h0 : 0 ≤ r) (h1 : r < 6) : ∃ x : Str, atI [PV.str "p0", PV.str "p1", PV.str "p2", PV.str "m0", PV.str "m1", PV.str "m2"] r = some (.str x) ∧ Nb x := by
  obtain h | h | h | h | h | h : r = 0 ∨ r = 1 ∨ r = 2 ∨ r = 3 ∨ r = 4 ∨ r = 5 := by omega
  all_goals
    subst h
    refine ⟨_, rfl, ⟨_, _, rfl, ?_, ?_, ?_⟩⟩ <;> decide +kernel

theorem ok__law_name {P : Program} {w : World} {K : Kf} {mg : Str → Option Value} {base : Heap} (h0 : Here K mg "_law_name" s__law_name ["script", "source", "used"]) (T : Blt mg) (XC : Xc K mg) (Su : Sure P base) (C__law_draw : Callee P w K mg base 34 "_law_draw" ["script", "source", "limit"] (sp__law_draw K)) : Callee P w K mg base 35 "_law_name" ["script", "source", "used"] (sp__law_name K) := by
  refine ok_of h0 sc__law_name (fun vs M Q E h => sp__law_name_len h) (fun f cdv A outer s H E hr => ⟨_, (psscons (psset 3 sc__law_name.nd pstr)
      (psscons (psset 4 sc__law_name.nd (pop opAdd (pv 3) pstr))
      (psscons (psset 5 sc__law_name.nd (pixK (K := K) (pv 3) (pcall C__law_draw (by exact hr.mono (by first | decide | omega)) (pacons (pv 0) (pacons (pv 1) (pacons pinT panil))))))
      (psscut (psfor PassesOwn.never rfl (pirng1 (by rfl) T.b_range (pacons (pcall C__law_draw (by exact hr.mono (by first | decide | omega)) (pacons (pv 0) (pacons (pv 1) (pacons pinT panil)))) panil)) (pgname (i := 6) sc__law_name.nd) (pssone (psset 5 sc__law_name.nd (pop opAdd (pv 5) (pixK (K := K) (pv 4) (pcall C__law_draw (by exact hr.mono (by first | decide | omega)) (pacons (pv 0) (pacons (pv 1) (pacons pinT panil)))))))))
      (psscut (psif (ptcmp (opEqK (K := K) (by exact hr.units)) (pcall C__law_draw (by exact hr.mono (by first | decide | omega)) (pacons (pv 0) (pacons (pv 1) (pacons pinT panil)))) pinT (nomark _)) (pssone (psset 5 sc__law_name.nd (pixK (K := K) (plst (pacons pstr (pacons pstr (pacons pstr (pacons pstr (pacons pstr (pacons pstr panil))))))) (pcall C__law_draw (by exact hr.mono (by first | decide | omega)) (pacons (pv 0) (pacons (pv 1) (pacons pinT panil))))))) pssnil)
      (psscons (psset 7 sc__law_name.nd (pv 5))
      (psscons (psfor PassesOwn.never rfl (pirng1 (by rfl) T.b_range (pacons (pop opAdd (pcallB (cLenK (K := K)) (by rfl) T.b_len (by decide +kernel) (pacons (pv 2) panil)) pinT) panil)) (pgname (i := 6) sc__law_name.nd) (pssone (psif (ptcmp (opIn (K := K)) (pv 5) (pv 2) rfl) (pssone (psset 5 sc__law_name.nd (pop opAdd (pv 7) (pcallTy cStr (by rfl) T.b_str (by decide +kernel) (pacons (pv 6) panil))))) pssnil)))
      (pssone (psret (pv 5)))))))))), fun vs M Q Ep h => ?_⟩)
  obtain ⟨a, s, u, ns, us, rfl, e, hu, us_ne, hul, k⟩ := h
  walk_at "go"
  refine ⟨by rw [sizeLine_eq]; decide +kernel, ?_⟩
  walk_at "on"
  refine ⟨a, s, ns, 26, rfl, e, by decide, by decide, fun r M1 h0 h1 e1 k1 => ?_⟩
  walk_at "on"
  obtain ⟨c, hc1, hc2, hc3⟩ := at_mem (l := ("abcdefghijklmnopqrstuvwxyz" : Str).cps.toList) h0 (by rw [let_cps]; exact h1)
  rw [let_cps] at hc1
  refine ⟨by rw [sizeLine_eq]; decide +kernel, c, hc3, ?_⟩
  walk_at "on"
  refine ⟨fun σ M1 => ∃ x, σ = [some (.ref a), some (.ref s), some (.ref u), none, none, some (.str x), none, none] ∧ Env K M1 a s ns ∧ Keep s M M1 ∧ Nb x, ?_, ?_⟩
  · refine ⟨a, s, ns, 3, rfl, e1, by decide, by decide, fun r2 M2 h20 h21 e2 k2 => ?_⟩
    walk_at "on"
    refine ⟨by omega, ?_⟩
    refine ⟨fun i σ M' => ∃ x r, σ = [some (.ref a), some (.ref s), some (.ref u), none, some (.str (("abcdefghijklmnopqrstuvwxyz" : Str) ++ ("0123456789" : Str))), some (.str x), none, none] ∧ Env K M' a s ns ∧ Keep s M M' ∧ x.cps.toList = c :: r ∧ (∀ d ∈ r, d ∈ signC) ∧ r.length ≤ i, ⟨_, _, ?_, .refl _, (⟨#[c]⟩ : Str), [], rfl, e2, k1.trans k2, rfl, by simp, Nat.zero_le _⟩, ?_, ?_, ?_⟩
    · walk_at "subs"
    · intros; trivial
    · rintro i p σ M' hp ⟨x, r, rfl, e3, k3, hx, hr1, hr2⟩
      obtain ⟨hi, rfl⟩ := rng_get hp
      walk_at "on"
      refine ⟨a, s, ns, 36, rfl, e3, by decide, by decide, fun r3 M3 h30 h31 e4 k4 => ?_⟩
      walk_at "on"
      obtain ⟨d, hd1, hd2, hd3⟩ := at_mem (l := (("abcdefghijklmnopqrstuvwxyz" : Str) ++ ("0123456789" : Str)).cps.toList) h30 (by rw [sig_cps]; exact h31)
      rw [sig_cps] at hd1
      refine ⟨by rw [sizeLine_eq]; decide +kernel, d, hd3, ?_⟩
      walk_at "on"
      refine ⟨app_len (n := 10) (m := 1) (by rw [hx, List.length_cons]; omega) (Nat.le_refl _) (by decide), ?_⟩
      walk_at "on"
      refine ⟨_, _, ?_, .refl _, x ++ ⟨#[d]⟩, r ++ [d], rfl, e4, k3.trans k4, by rw [cps_app, hx]; rfl, ?_, by rw [List.length_append, List.length_singleton]; omega⟩
      · walk_at "subs"
      · intro z hz
        rcases List.mem_append.mp hz with q | q
        · exact hr1 z q
        · rw [List.mem_singleton.mp q]; exact hd1
    · rintro σ M' ⟨x, r, rfl, e3, k3, hx, hr1, hr2⟩
      rw [rng_len] at hr2
      refine ⟨_, _, ?_, .refl _, x, rfl, e3, k3, ⟨c, r, hx, hc1, hr1, by omega⟩⟩
      walk_at "subs"
  · rintro σ M1 ⟨x, rfl, e1, k1, nb⟩
    refine ⟨fun σ M1 => ∃ x, σ = [some (.ref a), some (.ref s), some (.ref u), none, none, some (.str x), none, none] ∧ Env K M1 a s ns ∧ Keep s M M1 ∧ Nb x, ?_, ?_⟩
    · walk_at "on"
      refine ⟨a, s, ns, 6, rfl, e1, by decide, by decide, fun r M2 h0 h1 e2 k2 => ?_⟩
      walk_at "on"
      refine br_dec (fun h => ?_) (fun h => ?_)
      · walk_at "on"
        intro q hq
        walk_at "on"
        refine ⟨a, s, ns, 6, rfl, e2.new hq, by decide, by decide, fun r3 M3 h30 h31 e3 k3 => ?_⟩
        have hq3 := k3 q _ (e2.src_ne hq) updM_same
        obtain ⟨y, hy, nby⟩ := names6 h30 h31
        walk_at "on"
        exact ⟨_, _, .refl _, .refl _, y, rfl, e3, (k1.trans k2).trans ((Keep.new hq).trans k3), nby⟩
      · walk_at "on"
        exact ⟨_, _, .refl _, .refl _, x, rfl, e2, k1.trans k2, nb⟩
    · rintro σ M2 ⟨x, rfl, e2, k2, nb⟩
      have hu2 := hu.keep us_ne k2
      walk_at "on"
      refine ⟨by rw [List.length_map]; omega, ?_⟩
      refine ⟨fun i σ M' => ∃ j, σ = [some (.ref a), some (.ref s), some (.ref u), none, none, some (.str (cand x j)), none, some (.str x)] ∧ M' = M2 ∧ j ≤ i ∧ (∀ l < j, cand x l ∈ us) ∧ (j = i ∨ cand x j ∉ us), ⟨_, _, .refl _, .refl _, 0, rfl, rfl, Nat.le_refl _, by simp, .inl rfl⟩, ?_, ?_, ?_⟩
      · intros; trivial
      · rintro i p σ M' hp ⟨j, rfl, rfl, h1, h2, h3⟩
        obtain ⟨hi, rfl⟩ := rng_get hp
        rw [List.length_map] at hi
        walk_at "on"
        refine br_dec (fun h => ?_) (fun h => ?_)
        · have e3 : j = i := by rcases h3 with h3 | h3; exact h3; exact absurd h h3
          subst e3
          walk_at "on"
          refine ⟨by simp; exact Nat.lt_of_le_of_lt (Nat.log2_le_self j) (by omega), ?_⟩
          walk_at "on"
          rw [show (0 : Int) + (j : Int) = (j : Int) by omega]
          have hj : j < 64 := by omega
          obtain ⟨c, r, ex, _, _, er⟩ := nb.ex
          refine ⟨app_len (n := 4) (m := 2) (by rw [ex, List.length_cons]; omega) (num_ok j hj).1 (by decide), ?_⟩
          walk_at "on"
          refine ⟨_, _, ?_, .refl _, j + 1, rfl, rfl, Nat.le_refl _, fun l hl => ?_, .inl rfl⟩
          · walk_at "subs"
          · by_cases q : l = j
            · subst q; exact h
            · exact h2 l (by omega)
        · walk_at "on"
          refine ⟨_, _, ?_, .refl _, j, rfl, rfl, by omega, h2, .inr h⟩
          walk_at "subs"
      · rintro σ M' ⟨j, rfl, rfl, h1, h2, h3⟩
        rw [rng_len, List.length_map] at h1 h3
        walk_at "on"
        refine ⟨_, .refl _, k _ _ (nb.cand (i := j) (by omega)) ?_ e2 k2⟩
        intro hin
        rcases h3 with h3 | h3
        · exact cand_free (b := x) (us := us) (n := us.length + 1) (by omega) (by omega) fun l hl => h2 l (by omega)
        · exact h3 hin

/-! rows of sets -/
structure Row where
  nm : Str
  ow : Nat
  ws : List Int
def Row.pv (r : Row) : PV := .tup [.str r.nm, .int (r.ow : Nat), .tup (r.ws.map PV.int)]
abbrev rowsV (rs : List Row) : PV := .tup (rs.map Row.pv)
abbrev namesOf (rs : List Row) : List Str := rs.map Row.nm
/-- less by the signs -/
abbrev lts (x y : Str) : Prop := x.cps.toList < y.cps.toList
instance (x y : Str) : Decidable (lts x y) := inferInstanceAs (Decidable (x.cps.toList < y.cps.toList))
theorem lts_irrefl (x : Str) : ¬ lts x x := List.lt_irrefl _
theorem lts_trans {x y z : Str} (h1 : lts x y) (h2 : lts y z) : lts x z := List.lt_trans h1 h2
theorem str_ext {x y : Str} (h : x.cps.toList = y.cps.toList) : x = y := by
  cases x; cases y
  simp only [Str.mk.injEq]
  exact Array.toList_inj.mp h
theorem lts_total {x y : Str} (h : x ≠ y) (h2 : ¬ lts x y) : lts y x := by
  have h3 : y.cps.toList ≤ x.cps.toList := List.not_lt.mp h2
  exact Std.lt_of_le_of_ne h3 fun e => h (str_ext e.symm)
def SortedN (rs : List Row) : Prop := rs.Pairwise fun a b => lts a.nm b.nm
theorem SortedN.nodup {rs : List Row} (h : SortedN rs) : (namesOf rs).Nodup := by
  rw [List.nodup_iff_pairwise_ne, List.pairwise_map]
  exact h.imp fun {a b} q (e : a.nm = b.nm) => by rw [e] at q; exact lts_irrefl _ q
theorem strict_eq {α : Type} {R : α → α → Prop} (asym : ∀ x y, R x y → ¬ R y x) : ∀ {l m : List α}, l.Perm m → l.Pairwise R → m.Pairwise R → l = m
  | [], m, h, _, _ => (List.Perm.nil_eq h)
  | x :: l, [], h, _, _ => by have := h.length_eq; simp at this
  | x :: l, y :: m, h, h1, h2 => by
    have hx : x ∈ y :: m := h.mem_iff.mp List.mem_cons_self
    have hy : y ∈ x :: l := h.mem_iff.mpr List.mem_cons_self
    have p1 := List.pairwise_cons.mp h1
    have p2 := List.pairwise_cons.mp h2
    have e : x = y := by
      rcases List.mem_cons.mp hx with e | e
      · exact e
      rcases List.mem_cons.mp hy with e' | e'
      · exact e'.symm
      exact absurd (p1.1 y e') (asym _ _ (p2.1 x e))
    subst e
    rw [strict_eq asym ((List.perm_cons x).mp h) p1.2 p2.2]
theorem SortedN.eq {rs qs : List Row} (h : rs.Perm qs) (h1 : SortedN rs) (h2 : SortedN qs) : rs = qs := strict_eq (fun _ _ a b => lts_irrefl _ (lts_trans a b)) h h1 h2
theorem row_alike (a b : Row) : PySem.W.alike (toD a.pv) (toD b.pv) = true := by
  have key : ∀ xs ys : List Int, PySem.W.alikeAll (toDs (xs.map PV.int)) (toDs (ys.map PV.int)) = true := by
    intro xs
    induction xs with
    | nil => intro ys; cases ys <;> rfl
    | cons x xs ih =>
      intro ys
      cases ys with
      | nil => rfl
      | cons y ys => show (true && PySem.W.alikeAll _ _) = true; rw [ih ys]; rfl
  show (true && (true && (PySem.W.alikeAll (toDs (a.ws.map PV.int)) (toDs (b.ws.map PV.int)) && true))) = true
  rw [key]; rfl
theorem row_lt {a b : Row} (h : a.nm ≠ b.nm) : PySem.W.dataLt (toD a.pv) (toD b.pv) = decide (lts a.nm b.nm) := by
  have e : PyData.eqv (.str a.nm) (.str b.nm) = false := by
    show (a.nm == b.nm) = false
    exact beq_eq_false_iff_ne.mpr h
  show PySem.W.dataLt (.tuple (.str a.nm :: _)) (.tuple (.str b.nm :: _)) = _
  rw [PySem.W.dataLt_tuple, PySem.W.dataLt_cons rfl, e, if_neg Bool.false_ne_true, PySem.W.dataLt_str]
theorem row_pure {n : Nat} (r : Row) (h : r.ws.length ≤ 16777216) : PureD (n + 3) r.pv := .tup (by show 3 ≤ 16777216; decide) fun x hx => by
  rcases List.mem_cons.mp hx with rfl | hx
  · exact .str _
  rcases List.mem_cons.mp hx with rfl | hx
  · exact .int _
  rcases List.mem_cons.mp hx with rfl | hx
  · refine .tup (by rw [List.length_map]; exact h) fun y hy => ?_
    obtain ⟨z, _, rfl⟩ := List.mem_map.mp hy
    exact .int _
  cases hx
/-- rows sorted: by their names -/
theorem sort_rows {rs : List Row} (h : (namesOf rs).Nodup) : ∃ qs, (rs.map Row.pv).mergeSort (PySem.W.dataLe false toD) = qs.map Row.pv ∧ qs.Perm rs ∧ SortedN qs := by
  refine ⟨rs.mergeSort (PySem.W.dataLe false fun r => toD r.pv), (List.map_mergeSort (f := Row.pv) (l := rs) (r := PySem.W.dataLe false fun r => toD r.pv) (s := PySem.W.dataLe false toD) (fun _ _ _ _ => rfl)).symm, List.mergeSort_perm _ _, ?_⟩
  have tl := PySem.W.sortLe_total (PyProof.Rows.listOrd PyProof.Rows.itemOrd) false fun r : Row => PySem.W.keyToks (toD r.pv)
  have pw : (rs.mergeSort (PySem.W.dataLe false fun r => toD r.pv)).Pairwise (fun a b => PySem.W.dataLe false (fun r : Row => toD r.pv) a b = true) := List.pairwise_mergeSort tl.trans (fun a b => Bool.or_eq_true_iff.mpr (tl.total a b)) rs
  have nd : (namesOf (rs.mergeSort (PySem.W.dataLe false fun r => toD r.pv))).Nodup := ((List.mergeSort_perm rs _).map Row.nm).nodup_iff.mpr h
  rw [List.nodup_iff_pairwise_ne, List.pairwise_map] at nd
  refine (pw.and nd).imp fun {a b} ⟨h1, h2⟩ => ?_
  have h3 : (!PySem.W.dataLt (toD b.pv) (toD a.pv)) = true := h1
  rw [row_lt (Ne.symm h2), Bool.not_eq_true', decide_eq_false_iff_not] at h3
  exact lts_total (Ne.symm h2) h3
theorem rows_sortable (rs : List Row) : PySem.W.AllAlike ((rs.map Row.pv).map toD) ∧ PySem.W.Sortable ((rs.map Row.pv).map toD) := by
  rw [List.map_map]
  exact ⟨PySem.W.AllAlike.of (enc := fun r : Row => toD r.pv) fun a b => row_alike a b, PySem.W.Sortable.tuples (enc := fun r : Row => toD r.pv) fun r => ⟨_, _, rfl⟩⟩
theorem rows_pure {rs : List Row} (hl : ∀ r ∈ rs, r.ws.length ≤ 1000) : ∀ x ∈ rs.map Row.pv, PureD 40 x := fun x hx => by
  obtain ⟨r, hr, rfl⟩ := List.mem_map.mp hx
  exact row_pure r (Nat.le_trans (hl r hr) (by decide))
theorem row_at {rs : List Row} {i : Nat} {p : PV} (h : (rs.map Row.pv)[i]? = some p) : ∃ r, rs[i]? = some r ∧ p = r.pv := by
  rw [List.getElem?_map] at h
  cases e : rs[i]? with
  | none => rw [e] at h; cases h
  | some z => rw [e] at h; exact ⟨z, rfl, (Option.some.inj h).symm⟩
theorem len_two {α : Type} (b : α → Bool) : ∀ l : List α, (l.filter b).length + (l.filter fun x => !b x).length = l.length
  | [] => rfl
  | x :: l => by
    have := len_two b l
    by_cases h : b x = true
    · rw [List.filter_cons_of_pos h, List.filter_cons_of_neg (by simp [h]), List.length_cons, List.length_cons]; omega
    · rw [List.filter_cons_of_neg h, List.filter_cons_of_pos (by simpa using h), List.length_cons, List.length_cons]; omega
theorem cut_to {α : Type} (l : List α) (i : Nat) : cutL l none (some (i : Int)) = l.take i := by
  unfold cutL
  rw [HT.sIx_none, HT.sIx_nat, List.drop_zero, Nat.sub_zero]
  by_cases h : i ≤ l.length
  · rw [Nat.min_eq_left h]
  · have h := Nat.le_of_not_le h
    rw [Nat.min_eq_right h, List.take_of_length_le (Nat.le_refl _), List.take_of_length_le h]

/-- a filter told by the places -/
theorem flt_list {α β : Type} (l : List α) (d : α) (b : α → Bool) (f : α → β) : ((List.range l.length).filter fun i => b (l.getD i d)).map (fun i => f (l.getD i d)) = (l.filter b).map f := by
  have e : l = mk l.length fun i => l.getD i d := mk_of l d
  conv => rhs; rw [e]
  unfold mk
  rw [List.filter_map, List.map_map]
  rfl
theorem getD_at {α : Type} {l : List α} {i : Nat} {x d : α} (h : l[i]? = some x) : l.getD i d = x := by
  rw [List.getD_eq_getElem?_getD, h]; rfl
abbrev r0 : Row := ⟨⟨#[]⟩, 0, []⟩
theorem find_row {rs : List Row} (nd : (namesOf rs).Nodup) {r : Row} (h : r ∈ rs) : rs.find? (fun q => decide (q.nm = r.nm)) = some r := by
  induction rs with
  | nil => cases h
  | cons x l ih =>
    have nd2 := List.nodup_cons.mp (show (x.nm :: namesOf l).Nodup from nd)
    rcases List.mem_cons.mp h with rfl | h
    · rw [List.find?_cons, decide_eq_true rfl]
    · have ne : x.nm ≠ r.nm := fun e => nd2.1 (e ▸ List.mem_map_of_mem h)
      rw [List.find?_cons, decide_eq_false ne]
      exact ih nd2.2 h
theorem mk_list {α β : Type} (l : List α) (d : α) (f : α → β) : mk l.length (fun i => f (l.getD i d)) = l.map f := by
  conv => rhs; rw [mk_of l d]
  rw [mk_map]

def sp_row_of (K : Kf) : PSpec := fun vs M Q _ => ∃ (rs : List Row) (t : PV) (x : Str), vs = [.tup [rowsV rs, t], .str x] ∧ (∀ r, rs.find? (fun r => decide (r.nm = x)) = some r → Q r.pv M) ∧ (rs.find? (fun r => decide (r.nm = x)) = none → Q .non M)
theorem sp_row_of_len {K : Kf} {vs : List PV} {M : PHp} {Q : PVK} {E : PXK} (h : sp_row_of K vs M Q E) : vs.length = 2 := by
  obtain ⟨_, _, _, rfl, _⟩ := h; rfl
theorem find_at {α : Type} {f : α → Bool} : ∀ {l : List α} {i : Nat} {x : α}, l[i]? = some x → f x = true → (∀ (j : Nat) y, j < i → l[j]? = some y → f y = false) → l.find? f = some x
  | [], _, _, h, _, _ => by simp at h
  | a :: l, 0, x, h, h1, _ => by
    simp at h; subst h
    rw [List.find?_cons, h1]
  | a :: l, i + 1, x, h, h1, h2 => by
    have ha : f a = false := h2 0 a (by omega) rfl
    rw [List.find?_cons, ha]
    exact find_at (by simpa using h) h1 fun j y hj hy => h2 (j + 1) y (by omega) (by simpa using hy)
theorem find_no {α : Type} {f : α → Bool} {l : List α} (h : ∀ (j : Nat) y, l[j]? = some y → f y = false) : l.find? f = none := by
  rw [List.find?_eq_none]
  intro x hx
  obtain ⟨i, hi⟩ := List.getElem?_of_mem hx
  rw [h i x hi]; exact Bool.false_ne_true

theorem ok_row_of {P : Program} {w : World} {K : Kf} {mg : Str → Option Value} {base : Heap} (h0 : Here K mg "row_of" s_row_of ["game", "name"]) (T : Blt mg) (XC : Xc K mg) (Su : Sure P base)  : Callee P w K mg base 34 "row_of" ["game", "name"] (sp_row_of K) := by
  refine ok_of h0 sc_row_of (fun vs M Q E h => sp_row_of_len h) (fun f cdv A outer s H E hr => ⟨_, (psscons (psfor PassesOwn.never rfl (piseqK (K := K) (pixK (K := K) (pv 0) pinT)) (pgname (i := 2) sc_row_of.nd) (pssone (psif (ptcmp (opEqK (K := K) (by exact hr.units)) (pixK (K := K) (pv 2) pinT) (pv 1) (nomark _)) (pssone (psret (pv 2))) pssnil)))
      (pssone (psret pnon))), fun vs M Q Ep h => ?_⟩)
  obtain ⟨rs, t, x, rfl, k1, k2⟩ := h
  walk_at "go"
  refine ⟨fun i σ M1 => σ = [some (.tup [rowsV rs, t]), some (.str x), none] ∧ M1 = M ∧ ∀ (j : Nat) y, j < i → rs[j]? = some y → y.nm ≠ x, ⟨_, _, .refl _, .refl _, rfl, rfl, fun j _ hj => absurd hj (by omega)⟩, ?_, ?_, ?_⟩
  · intros; trivial
  · rintro i p σ M1 hp ⟨rfl, rfl, hno⟩
    obtain ⟨r, hr, rfl⟩ := row_at hp
    walk_at "on"
    refine br_dec (fun e => ?_) (fun e => ?_)
    · walk_at "on"
      exact ⟨_, .refl _, k1 r (find_at hr (decide_eq_true e) fun j y hj hy => decide_eq_false (hno j y hj hy))⟩
    · walk_at "on"
      refine ⟨_, _, by walk_at "subs", .refl _, rfl, rfl, fun j y hj hy => ?_⟩
      by_cases q : j = i
      · subst q; rw [hr] at hy; cases hy; exact e
      · exact hno j y (by omega) hy
  · rintro σ M1 ⟨rfl, rfl, hno⟩
    rw [List.length_map] at hno
    walk_at "on"
    exact ⟨_, .refl _, k2 (find_no fun j y hy => decide_eq_false (hno j y (lt_of_get hy) hy))⟩

theorem bt64 {x : Int} (h : x.natAbs < 2 ^ 64) : intBits x ≤ 64 := intBits_le_iff.mpr h
/-- a drawn row -/
structure RowD (r : Row) : Prop where
  nm : Nm r.nm
  ow : r.ow ≤ 2
  l1 : 1 ≤ r.ws.length
  l2 : r.ws.length ≤ 4
  ws : ∀ w ∈ r.ws, 1 ≤ w ∧ w ≤ 6
  one : r.ow ≠ 0 → ∀ w ∈ r.ws, w = 1
  g1 : gl r.ws = 1
def brd (rs : List Row) : Nat := (rs.map fun r => r.ws.length).foldr (· * ·) 1
theorem brd_cons (r : Row) (rs : List Row) : brd (r :: rs) = r.ws.length * brd rs := rfl
theorem brd_app (rs qs : List Row) : brd (rs ++ qs) = brd rs * brd qs := by
  induction rs with
  | nil => exact (Nat.one_mul _).symm
  | cons r rs ih => rw [List.cons_append, brd_cons, brd_cons, ih, Nat.mul_assoc]
theorem brd_perm {rs qs : List Row} (h : rs.Perm qs) : brd rs = brd qs := by
  induction h with
  | nil => rfl
  | cons x _ ih => rw [brd_cons, brd_cons, ih]
  | swap x y l => rw [brd_cons, brd_cons, brd_cons, brd_cons, Nat.mul_left_comm]
  | trans _ _ h1 h2 => exact h1.trans h2
theorem IsRed.g1 {ws rs : List Int} (h : IsRed ws rs) (h1 : 1 ≤ ws.length) (hp : ∀ w ∈ ws, 1 ≤ w) : gl rs = 1 := by
  cases h with
  | zero hz e =>
    obtain ⟨w, hw⟩ : ∃ w, w ∈ ws := ⟨ws[0]'(by omega), List.getElem_mem _⟩
    have := hp w hw
    have := hz w hw
    omega
  | pos g hg e h => exact h
theorem IsRed.range {ws rs : List Int} (h : IsRed ws rs) (hw : ∀ w ∈ ws, 1 ≤ w ∧ w ≤ 6) : ∀ r ∈ rs, 1 ≤ r ∧ r ≤ 6 := by
  cases h with
  | zero hz e => rw [e]; exact hw
  | pos g hg e h =>
    intro r hr
    have := hw (g * r) (by rw [e]; exact List.mem_map_of_mem hr)
    obtain ⟨h1, h2⟩ := this
    have r0 : 0 < r := by
      rcases Int.lt_trichotomy r 0 with q | q | q
      · have := Int.mul_neg_of_pos_of_neg hg q; omega
      · subst q; simp at h1
      · exact q
    have h3 : 1 * r ≤ g * r := Int.mul_le_mul_of_nonneg_right (by omega) (by omega)
    omega
theorem IsRed.one {ws rs : List Int} (h : IsRed ws rs) (hw : ∀ w ∈ ws, w = 1) : ∀ r ∈ rs, r = 1 := by
  cases h with
  | zero hz e => rw [e]; exact hw
  | pos g hg e h =>
    intro r hr
    have := hw (g * r) (by rw [e]; exact List.mem_map_of_mem hr)
    have h1 : (g : Int) = 1 := Int.eq_one_of_mul_eq_one_right (by omega) this
    rw [h1, Int.one_mul] at this
    exact this
theorem int_mem {us : List Int} {r : Int} (h0 : 0 ≤ r) (h1 : r < (us.length : Int)) : ∃ q, q ∈ us ∧ atI (us.map PV.int) r = some (.int q) := by
  obtain ⟨q, h2, h3, _⟩ := at_mem h0 h1
  obtain ⟨m, rfl⟩ : ∃ m : Nat, r = (m : Int) := ⟨r.toNat, by omega⟩
  rw [Int.toNat_natCast] at h3
  exact ⟨q, h2, atI_nat (by rw [List.getElem?_map, h3]; rfl)⟩
theorem ones_of (n : Nat) : mk (rng 0 n).length (fun _ => PV.int 1) = (List.replicate n (1 : Int)).map PV.int := by
  rw [rng_len]
  unfold mk
  rw [List.map_replicate]
  apply List.ext_getElem?
  intro i
  rw [List.getElem?_map, List.getElem?_replicate]
  by_cases h : i < n
  · rw [List.getElem?_range h, if_pos h]; rfl
  · rw [List.getElem?_eq_none (by simp; omega), if_neg h]; rfl

abbrev cnt8 : List Int := [2, 2, 3, 2, 2, 4, 3, 1]
theorem cnt8_ok : ∀ x ∈ cnt8, 1 ≤ x ∧ x ≤ 4 := by decide
def sp__law_sets (K : Kf) : PSpec := fun vs M Q _ => ∃ (a s : Addr) (ns : List Int) (m w : Nat), vs = [.ref a, .ref s, .int (m : Int), .int (w : Int)] ∧ m ≤ 40 ∧ 1 ≤ w ∧ w ≤ 10 ^ 9 ∧ Env K M a s ns ∧
  ∀ rs M', rs.length ≤ m → SortedN rs → (∀ r ∈ rs, RowD r) → brd rs ≤ w → Env K M' a s ns → Keep s M M' → Q (rowsV rs) M'
theorem sp__law_sets_len {K : Kf} {vs : List PV} {M : PHp} {Q : PVK} {E : PXK} (h : sp__law_sets K vs M Q E) : vs.length = 4 := by
  obtain ⟨_, _, _, _, _, rfl, _⟩ := h; rfl

theorem ok__law_sets {P : Program} {w : World} {K : Kf} {mg : Str → Option Value} {base : Heap} (h0 : Here K mg "_law_sets" s__law_sets ["script", "source", "many", "most"]) (T : Blt mg) (XC : Xc K mg) (Su : Sure P base) (C__law_draw : Callee P w K mg base 34 "_law_draw" ["script", "source", "limit"] (sp__law_draw K)) (C__law_name : Callee P w K mg base 35 "_law_name" ["script", "source", "used"] (sp__law_name K)) (C__law_reduced : Callee P w K mg base 35 "_law_reduced" ["weights"] (sp__law_reduced K)) : Callee P w K mg base 36 "_law_sets" ["script", "source", "many", "most"] (sp__law_sets K) := by
  refine ok_of h0 sc__law_sets (fun vs M Q E h => sp__law_sets_len h) (fun f cdv A outer s H E hr => ⟨_, (psscons (psset 4 sc__law_sets.nd (plst panil))
      (psscons (psset 5 sc__law_sets.nd (plst panil))
      (psscons (psset 6 sc__law_sets.nd (pcall C__law_draw (by exact hr.mono (by first | decide | omega)) (pacons (pv 0) (pacons (pv 1) (pacons pinT panil)))))
      (psscons (psfor PassesOwn.never rfl (pirng1 (by rfl) T.b_range (pacons (pop opSub (pv 2) (pop opMul (pixK (K := K) (plst (pacons pinT (pacons pinT (pacons pinT (pacons pinT panil))))) (pcall C__law_draw (by exact hr.mono (by first | decide | omega)) (pacons (pv 0) (pacons (pv 1) (pacons pinT panil))))) (pcall C__law_draw (by exact hr.mono (by first | decide | omega)) (pacons (pv 0) (pacons (pv 1) (pacons (pop opAdd (pv 2) pinT) panil)))))) panil)) (pgname (i := 7) sc__law_sets.nd) (psscons (psset 8 sc__law_sets.nd (pixK (K := K) (plst (pacons pinT (pacons pinT (pacons pinT (pacons pinT (pacons pinT (pacons pinT (pacons pinT (pacons pinT panil))))))))) (pcall C__law_draw (by exact hr.mono (by first | decide | omega)) (pacons (pv 0) (pacons (pv 1) (pacons pinT panil))))))
      (psscut (psif (ptcmp opGt (pv 8) (pv 3) (nomark _)) (pssone (psset 8 sc__law_sets.nd pinT)) pssnil)
      (psscons (psset 3 sc__law_sets.nd (pop (opFdiv Su (by exact hr.mono (by first | decide | omega))) (pv 3) (pv 8)))
      (psscons (psset 9 sc__law_sets.nd (pixK (K := K) (plst (pacons (pop opMod (pcallTy cInt (by rfl) T.b_int (by decide +kernel) (pacons (pop opAdd (pv 6) (pv 7)) panil)) pinT) (pacons (pop opMod (pcallTy cInt (by rfl) T.b_int (by decide +kernel) (pacons (pop opAdd (pv 6) (pv 7)) panil)) pinT) (pacons pinT (pacons pinT (pacons (pop opSub (pv 6) pinT) (pacons (pop opSub (pv 6) pinT) (pacons (pop opSub (pv 6) pinT) (pacons (pop opSub (pv 6) pinT) panil))))))))) (pop opAdd (pcall C__law_draw (by exact hr.mono (by first | decide | omega)) (pacons (pv 0) (pacons (pv 1) (pacons pinT panil)))) (pop opMul pinT (pcallTy cInt (by rfl) T.b_int (by decide +kernel) (pacons (pcmp opGt (pv 6) pinT (nomark _)) panil))))))
      (psscons (pssetlcP 10  rfl sc__law_sets.nd rfl (sw_true rfl rfl rfl (by decide +kernel)) (pirng1 (by rfl) T.b_range (pacons (pv 8) panil)) (blkOk_by (own := [("j", 12)]) (N := ["script", "source", "many", "most", "rows", "used", "turn", "k", "count", "owner", "weights", "name", "j"]) (sc := defScope s__law_sets) (by decide +kernel)) (tgName (by decide)) (fun _ _ _ _ _ => (pg_name (i := 12) sc__law_sets.nd rfl (by first | exact Or.inl rfl | exact Or.inr rfl))) (fun _ _ _ _ _ => pinT))
      (psscut (psif (ptcmp (opEqK (K := K) (by exact hr.units)) (pv 9) pinT (nomark _)) (pssone (pssetlc1 10 12 rfl sc__law_sets.nd rfl (sw_true rfl rfl rfl (by decide +kernel)) (pirng1 (by rfl) T.b_range (pacons (pv 8) panil)) (blkOk_by (own := [("j", 12)]) (N := ["script", "source", "many", "most", "rows", "used", "turn", "k", "count", "owner", "weights", "name", "j"]) (sc := defScope s__law_sets) (by decide +kernel)) (by decide) (fun _ _ _ _ _ => pg_name (i := 12) sc__law_sets.nd rfl (Or.inl rfl)) (fun _ _ _ _ _ => ptsnil) (fun _ _ _ _ _ => (pop opAdd pinT (pcall C__law_draw (by exact hr.mono (by first | decide | omega)) (pacons (pv 0) (pacons (pv 1) (pacons pinT panil)))))))) pssnil)
      (psscons (psset 11 sc__law_sets.nd (pcall C__law_name (by exact hr.mono (by first | decide | omega)) (pacons (pv 0) (pacons (pv 1) (pacons (pv 5) panil)))))
      (psscons (psexpr (pbmK (K := K) PySem.F.plainAttrs_list PySem.F.slot_list_append PySem.F.type_list_append mAppend (pv 5) (pacons (pv 11) panil)))
      (pssone (psexpr (pbmK (K := K) PySem.F.plainAttrs_list PySem.F.slot_list_append PySem.F.type_list_append mAppend (pv 4) (pacons (ptup (pacons (pv 11) (pacons (pv 9) (pacons (pcall C__law_reduced (by exact hr.mono (by first | decide | omega)) (pacons (pv 10) panil)) panil)))) panil)))))))))))))
      (pssone (psret (pcallTy (cTupleK (K := K)) (by rfl) T.b_tuple (by decide +kernel) (pacons (pcallB (cSortDK (K := K) (by exact hr.units)) (by rfl) T.b_sorted (by decide +kernel) (pacons (pv 4) panil)) panil)))))))), fun vs M Q Ep h => ?_⟩)
  obtain ⟨a, s, ns, m, w0, rfl, hm, hw1, hw2, e, k⟩ := h
  have he := He.start e
  walk_at "go"
  refine al he fun p hp he => ?_
  walk_at "on"
  refine al (he _) fun u hu he => ?_
  walk_at "on"
  refine dr (he _) (by decide) (by decide) fun t M1 t0 t1 he => ?_
  walk_at "on"
  refine al he fun z1 hz1 he => ?_
  walk_at "on"
  refine dr (he _) (by decide) (by decide) fun d1 M2 d10 d11 he => ?_
  obtain ⟨q1, q1m, hq1⟩ := int_mem (us := [0, 0, 0, 1]) d10 d11
  have q1r : 0 ≤ q1 ∧ q1 ≤ 1 := by revert q1m; simp; omega
  walk_at "on"
  refine dr he.d0 (by omega) (bt64 (by omega)) fun d2 M3 d20 d21 he => ?_
  have hw : ∃ n : Nat, (m : Int) - q1 * d2 ≤ (n : Int) ∧ n ≤ m ∧ ((m : Int) - q1 * d2 - 0).toNat = n := by
    refine ⟨((m : Int) - q1 * d2).toNat, by omega, ?_, by rw [Int.sub_zero]⟩
    have : 0 ≤ q1 * d2 := Int.mul_nonneg q1r.1 d20
    omega
  have hqd : 0 ≤ q1 * d2 ∧ q1 * d2 ≤ 41 := by
    refine ⟨Int.mul_nonneg q1r.1 d20, ?_⟩
    have : q1 = 0 ∨ q1 = 1 := by omega
    rcases this with h | h <;> subst h <;> omega
  walk_at "on"
  refine ⟨small_ok (by omega), ?_⟩
  walk_at "on"
  refine ⟨by omega, ?_⟩
  refine ⟨fun i σ M' => ∃ (rs : List Row) (w : Nat) (w7 w8 w9 w10 w11 : Option PV), σ = [some (.ref a), some (.ref s), none, some (.int (w : Int)), some (.ref p), some (.ref u), some (.int t), w7, w8, w9, w10, w11, none] ∧ rs.length = i ∧ (namesOf rs).Nodup ∧ (∀ q ∈ rs, RowD q) ∧ brd rs * w ≤ w0 ∧ 1 ≤ w ∧ He K [] a s ns M M' [(u, .lst ((namesOf rs).map PV.str)), (p, .lst (rs.map Row.pv))], ⟨_, _, by walk_at "subs", .refl _, [], w0, _, _, _, _, _, rfl, rfl, List.nodup_nil, by simp, by show 1 * w0 ≤ w0; omega, hw1, he⟩, ?_, ?_, ?_⟩
  · intros; trivial
  · clear he
    rintro i x σ M4 hx ⟨rs, w, w7, w8, w9, w10, w11, rfl, hri, nd, hok, hbw, hw1', he⟩
    obtain ⟨hi, rfl⟩ := rng_get hx
    have nl : (namesOf rs).length = rs.length := List.length_map _
    have hi2 : i < 40 := by obtain ⟨n, h1, h2, h3⟩ := hw; omega
    clear hw hz1 hq1
    walk_at "on"
    refine al he fun y1 hy1 he => ?_
    walk_at "on"
    refine dr (he _) (by decide) (by decide) fun d M5 d0 d1 he => ?_
    obtain ⟨c, cm, hc⟩ := int_mem (us := cnt8) d0 d1
    obtain ⟨c1, c2⟩ := cnt8_ok c cm
    walk_at "on"
    replace he := he.d0
    refine ⟨fun σ M' => ∃ c : Nat, σ = [some (.ref a), some (.ref s), none, some (.int (w : Int)), some (.ref p), some (.ref u), some (.int t), some (.int (0 + (i : Int))), some (.int (c : Int)), none, none, none, none] ∧ M' = M5 ∧ 1 ≤ c ∧ c ≤ 4 ∧ c ≤ w, ?_, ?_⟩
    · walk_at "on"
      refine br_dec (fun h => ?_) (fun h => ?_)
      · walk_at "on"
        exact ⟨_, _, by walk_at "subs", .refl _, 1, rfl, rfl, by decide, by decide, hw1'⟩
      · walk_at "on"
        obtain ⟨c, rfl⟩ : ∃ n : Nat, c = (n : Int) := ⟨c.toNat, by omega⟩
        exact ⟨_, _, by walk_at "subs", .refl _, c, rfl, rfl, by omega, by omega, by omega⟩
    clear hc c1 c2 cm d0 d1 c d
    rintro σ M' ⟨c, rfl, rfl, c1, c2, cw⟩
    walk_at "on"
    refine al he fun y2 hy2 he => ?_
    walk_at "on"
    refine dr (he _) (by decide) (by decide) fun d M6 d0 d1 he => ?_
    walk_at "on"
    obtain ⟨ow, owr, ho⟩ : ∃ ow : Int, (0 ≤ ow ∧ ow ≤ 2) ∧ atI ([(t + (0 + (i : Int))).fmod 3, (t + (0 + (i : Int))).fmod 3, 1, 2, t - 3, t - 3, t - 3, t - 3].map PV.int) (d + 4 * if decide (2 < t) = true then 1 else 0) = some (.int ow) := by
      have f3 := fm (i := t + (0 + (i : Int))) (j := 3) (by decide)
      have d1 : d < 4 := d1
      by_cases h : 2 < t
      · rw [if_pos (decide_eq_true h)]
        obtain ⟨d, rfl⟩ : ∃ n : Nat, d = (n : Int) := ⟨d.toNat, by omega⟩
        refine ⟨t - 3, by omega, ?_⟩
        rw [show (d : Int) + 4 * 1 = ((d + 4 : Nat) : Int) by omega]
        refine atI_nat ?_
        match d, (show d < 4 by omega) with
        | 0, _ => rfl
        | 1, _ => rfl
        | 2, _ => rfl
        | 3, _ => rfl
      · rw [if_neg (by simpa using h)]
        obtain ⟨d, rfl⟩ : ∃ n : Nat, d = (n : Int) := ⟨d.toNat, by omega⟩
        rw [show (d : Int) + 4 * 0 = ((d : Nat) : Int) by omega]
        match d, (show d < 4 by omega) with
        | 0, _ => exact ⟨_, by omega, atI_nat rfl⟩
        | 1, _ => exact ⟨_, by omega, atI_nat rfl⟩
        | 2, _ => exact ⟨1, by omega, atI_nat rfl⟩
        | 3, _ => exact ⟨2, by omega, atI_nat rfl⟩
    refine ⟨_, ho, ?_⟩
    walk_at "on"
    replace he := he.d0
    refine ⟨by omega, ?_⟩
    refine ⟨fun _ => .int 1, by rw [rng_len]; omega, fun _ _ => trivial, fun i x M3 Q2 hx sb k3 => ⟨_, rfl, ?_⟩, fun Dl l hD hl => ?_⟩
    · walk_at "on"
      exact k3 _ (.refl _)
    rw [ones_of] at hl
    subst hl
    replace he := he.new (o := .lst ((List.replicate ((c : Int) - 0).toNat (1 : Int)).map PV.int)) hD
    walk_at "on"
    refine ⟨fun σ M' => ∃ (q : Addr) (ws : List Int), σ = [some (.ref a), some (.ref s), none, some (.int (((w : Int).fdiv (c : Int)))), some (.ref p), some (.ref u), some (.int t), none, none, some (.int ow), some (.ref q), none, none] ∧ ws.length = c ∧ (∀ w ∈ ws, 1 ≤ w ∧ w ≤ 6) ∧ (ow ≠ 0 → ∀ w ∈ ws, w = 1) ∧ He K [] a s ns M M' [(q, .lst (ws.map PV.int)), (u, .lst ((namesOf rs).map PV.str)), (p, .lst (rs.map Row.pv))], ?_, ?_⟩
    · walk_at "on"
      refine br_dec (fun h => ?_) (fun h => ?_)
      · walk_at "on"
        refine ⟨by omega, ?_⟩
        refine al he.d0 fun D2 hD2 he => ?_
        refine ⟨fun i acc M' => ∃ ws : List Int, acc = ws.map PV.int ∧ ws.length = i ∧ (∀ w ∈ ws, 1 ≤ w ∧ w ≤ 6) ∧ He K [] a s ns M M' [(D2, .lst acc), (u, .lst ((namesOf rs).map PV.str)), (p, .lst (rs.map Row.pv))], ⟨_, .refl _, [], rfl, rfl, by simp, he _⟩, ?_, ?_, ?_⟩
        · intros; trivial
        · rintro i x acc M4 hx ⟨ws, rfl, hwl, hw, he⟩
          obtain ⟨hi, rfl⟩ := rng_get hx
          walk_at "on"
          refine dr he (by decide) (by decide) fun r M5 f0 f1 he => ?_
          walk_at "on"
          refine ⟨by walk_at "hp", by rw [List.length_map, sizeLine_eq]; omega, _, .refl _, ws ++ [1 + r], by rw [List.map_append]; rfl, by rw [List.length_append, hwl]; rfl, fun z hz => ?_, by walk_at "he"⟩
          rcases List.mem_append.mp hz with h | h
          · exact hw z h
          · rw [List.mem_singleton.mp h]; omega
        · rintro acc M4 ⟨ws, rfl, hwl, hw, he⟩
          rw [rng_len] at hwl
          exact ⟨_, _, by walk_at "subs", .refl _, D2, ws, rfl, by omega, hw, fun z => absurd h z, he⟩
      · walk_at "on"
        exact ⟨_, _, by walk_at "subs", .refl _, Dl, List.replicate ((c : Int) - 0).toNat 1, rfl, by rw [List.length_replicate]; omega, fun w hw => by rw [(List.mem_replicate.mp hw).2]; decide, fun _ w hw => (List.mem_replicate.mp hw).2, he⟩
    clear he hD ho hy1 hy2
    rintro σ M7 ⟨q, ws, rfl, hwl, hw, hone, he⟩
    walk_at "on"
    refine ⟨a, s, u, ns, namesOf rs, rfl, he.env, .inl (he.get 1 rfl), he.ne_s 1 rfl, by omega, fun x M8 nx nin e8 k8 => ?_⟩
    replace he := he.call e8 k8
    walk_at "on"
    refine ⟨_, he.get 1 rfl, by rw [List.length_map, nl, sizeLine_eq]; omega, ?_⟩
    replace he := he.up1 (o' := .lst ((namesOf rs).map PV.str ++ [.str x]))
    walk_at "on"
    refine ⟨_, ws, rfl, .inr ⟨q, rfl, .inl (he.get 0 rfl)⟩, ⟨by omega, fun w hw' => by have := hw w hw'; omega⟩, fun xs hrs => ?_⟩
    obtain ⟨o, rfl⟩ : ∃ o : Nat, ow = (o : Int) := ⟨ow.toNat, by omega⟩
    walk_at "on"
    refine ⟨_, he.get 2 rfl, by rw [List.length_map, sizeLine_eq]; omega, ?_⟩
    replace he := he.d0.up1 (o' := .lst (rs.map Row.pv ++ [.tup [.str x, .int o, .tup (xs.map PV.int)]]))
    walk_at "on"
    have rok : RowD ⟨x, o, xs⟩ := ⟨nx, by show o ≤ 2; omega, by show 1 ≤ xs.length; rw [hrs.len]; omega, by show xs.length ≤ 4; rw [hrs.len]; omega, hrs.range hw, fun h => hrs.one (hone (by show (o : Int) ≠ 0; have : o ≠ 0 := h; omega)), hrs.g1 (by omega) fun w hw' => (hw w hw').1⟩
    have fd : (w : Int).fdiv (c : Int) = ((w / c : Nat) : Int) := by rw [Int.fdiv_eq_ediv_of_nonneg _ (by omega)]; rfl
    rw [fd]
    refine ⟨_, _, by walk_at "subs", .refl _, rs ++ [⟨x, o, xs⟩], w / c, _, _, _, _, _, rfl, by rw [List.length_append, hri]; rfl, ?_, fun z hz => ?_, ?_, (Nat.le_div_iff_mul_le (by omega)).mpr (by omega), ?_⟩
    · rw [namesOf, List.map_append]
      refine List.nodup_append.mpr ⟨nd, by simp, fun y hy z hz => ?_⟩
      rw [List.map_singleton, List.mem_singleton] at hz
      subst hz
      intro h; subst h; exact nin hy
    · rcases List.mem_append.mp hz with h | h
      · exact hok z h
      · rw [List.mem_singleton.mp h]; exact rok
    · rw [brd_app]
      refine Nat.le_trans ?_ hbw
      rw [Nat.mul_assoc]
      refine Nat.mul_le_mul_left _ ?_
      show xs.length * 1 * (w / c) ≤ w
      rw [Nat.mul_one, hrs.len, hwl]
      exact Nat.mul_div_le w c
    · have e1 : (namesOf (rs ++ [(⟨x, o, xs⟩ : Row)])).map PV.str = (namesOf rs).map PV.str ++ [.str x] := by rw [namesOf, List.map_append, List.map_append]; rfl
      have e2 : (rs ++ [(⟨x, o, xs⟩ : Row)]).map Row.pv = rs.map Row.pv ++ [.tup [.str x, .int (o : Int), .tup (xs.map PV.int)]] := List.map_append
      rw [e1, e2]; exact he
  · clear he
    rintro σ M2 ⟨rs, w, w7, w8, w9, w10, w11, rfl, hri, nd, hok, hbw, hw1, he⟩
    rw [rng_len] at hri
    have hrm : rs.length ≤ m := by obtain ⟨n, h1, h2, h3⟩ := hw; omega
    obtain ⟨qs, e3, pm, sn⟩ := sort_rows nd
    walk_at "on"
    refine ⟨rows_pure (fun q hq => by have := (hok q hq).l2; omega), (rows_sortable _).1, (rows_sortable _).2, fun z hz => ?_⟩
    rw [e3]
    walk_at "on"
    refine ⟨M2, .new hz, k qs M2 (by rw [pm.length_eq]; omega) sn (fun q hq => hok q (pm.mem_iff.mp hq)) ?_ he.env he.keep⟩
    rw [brd_perm pm]
    exact Nat.le_trans (Nat.le_mul_of_pos_right _ hw1) hbw

inductive Tr where
  | leaf (x : Str)
  | node (n : Str) (cs : List Tr)
mutual
def Tr.pv : Tr → PV
  | .leaf x => .str x
  | .node n cs => .tup [.str n, .tup (Tr.pvs cs)]
def Tr.pvs : List Tr → List PV
  | [] => []
  | c :: r => c.pv :: Tr.pvs r
end
theorem Tr.pvs_map : ∀ cs : List Tr, Tr.pvs cs = cs.map Tr.pv
  | [] => rfl
  | c :: r => congrArg (c.pv :: ·) (Tr.pvs_map r)
/-- the rows without a name -/
abbrev offN (rs : List Row) (x : Str) : List Row := rs.filter fun q => !decide (q.nm = x)
theorem offN_len {rs : List Row} {q : Row} (hq : q ∈ rs) : (offN rs q.nm).length < rs.length := by
  have h1 := len_two (fun p : Row => !decide (p.nm = q.nm)) rs
  have h2 : 0 < (rs.filter fun p => !(!decide (p.nm = q.nm))).length := List.length_pos_of_mem (List.mem_filter.mpr ⟨hq, by simp⟩)
  show (rs.filter fun p => !decide (p.nm = q.nm)).length < _
  omega
theorem offN_sub {rs : List Row} {x : Str} {q : Row} (h : q ∈ offN rs x) : q ∈ rs := (List.mem_filter.mp h).1
/-- a tree over rows: no set twice on a way -/
inductive TOk (us : List Str) : List Row → Tr → Prop
  | leaf {rs x} : x ∈ us → TOk us rs (.leaf x)
  | node {rs : List Row} {r : Row} {cs : List Tr} : r ∈ rs → cs.length = r.ws.length → (∀ c ∈ cs, TOk us (offN rs r.nm) c) → TOk us rs (.node r.nm cs)
theorem row_mem {rs : List Row} {r : Int} (h0 : 0 ≤ r) (h1 : r < (rs.length : Int)) : ∃ q, q ∈ rs ∧ atI (rs.map Row.pv) r = some q.pv := by
  obtain ⟨q, h2, h3, _⟩ := at_mem h0 h1
  obtain ⟨m, rfl⟩ : ∃ m : Nat, r = (m : Int) := ⟨r.toNat, by omega⟩
  rw [Int.toNat_natCast] at h3
  exact ⟨q, h2, atI_nat (by rw [List.getElem?_map, h3]; rfl)⟩
theorem str_mem {us : List Str} {r : Int} (h0 : 0 ≤ r) (h1 : r < (us.length : Int)) : ∃ q, q ∈ us ∧ atI (us.map PV.str) r = some (.str q) := by
  obtain ⟨q, h2, h3, _⟩ := at_mem h0 h1
  obtain ⟨m, rfl⟩ : ∃ m : Nat, r = (m : Int) := ⟨r.toNat, by omega⟩
  rw [Int.toNat_natCast] at h3
  exact ⟨q, h2, atI_nat (by rw [List.getElem?_map, h3]; rfl)⟩
/-- none or a row -/
abbrev optR (o : Option Row) : PV := match o with | none => .non | some x => x.pv
def sp__law_tree (K : Kf) (n : Nat) : PSpec := fun vs M Q _ => ∃ (a s f o r : Addr) (ns : List Int) (rs : List Row) (us : List Str) (m : Int) (w : Option Row), vs = [.ref a, .ref s, .ref f, .ref o, .ref r, optR w] ∧ rs.length < n ∧ rs.length ≤ 1000 ∧ us.length ≤ 1000 ∧ us ≠ [] ∧ (∀ q ∈ rs, 1 ≤ q.ws.length ∧ q.ws.length ≤ 1000) ∧
  Env K M a s ns ∧ M f = some (.lst (rs.map Row.pv)) ∧ M o = some (.lst (us.map PV.str)) ∧ M r = some (.lst [.int m]) ∧ f ≠ s ∧ o ≠ s ∧ r ≠ s ∧ f ≠ r ∧ o ≠ r ∧ (KL K a (ns.map PV.int) ∨ r ≠ a) ∧ (∀ q, w = some q → q ∈ rs) ∧
  ∀ t M' m', TOk us rs t → Env K M' a s ns → Keep2 s r M M' → M' r = some (.lst [.int m']) → Q t.pv M'
theorem sp__law_tree_len {K : Kf} {n : Nat} {vs : List PV} {M : PHp} {Q : PVK} {E : PXK} (h : sp__law_tree K n vs M Q E) : vs.length = 6 := by
  obtain ⟨_, _, _, _, _, _, _, _, _, _, rfl, _⟩ := h; rfl
theorem sp__law_tree_zero {K : Kf} {vs : List PV} {M : PHp} {Q : PVK} {E : PXK} (h : sp__law_tree K 0 vs M Q E) : False := by
  obtain ⟨_, _, _, _, _, _, _, _, _, _, rfl, h, _⟩ := h; exact absurd h (by omega)

theorem ok__law_tree {P : Program} {w : World} {K : Kf} {mg : Str → Option Value} {base : Heap} (h0 : Here K mg "_law_tree" s__law_tree ["script", "source", "free", "outcomes", "room", "wish"]) (T : Blt mg) (XC : Xc K mg) (Su : Sure P base) (C__law_draw : Callee P w K mg base 34 "_law_draw" ["script", "source", "limit"] (sp__law_draw K)) : ∀ n : Nat, Callee P w K mg base (35 + n) "_law_tree" ["script", "source", "free", "outcomes", "room", "wish"] (sp__law_tree K n)
  | 0 => (Callee.never (k := 34) h0 sc__law_tree).imp fun _ _ _ _ h => (sp__law_tree_zero h).elim
  | n + 1 => by
    have C__law_tree := ok__law_tree (P := P) (w := w) (base := base) h0 T XC Su C__law_draw n
    refine ok_of (k := 35 + n) h0 sc__law_tree (fun vs M Q E h => sp__law_tree_len h) (fun f cdv A outer s H E hr => ⟨_, (psscons (psasg (pop opSub (pixK (K := K) (pv 4) pinT) pinT) (pgsub (pv 4) pinT))
      (psscut (psset 6 sc__law_tree.nd (pand (pcmp (opEqK (K := K) (by exact hr.units)) (pcall C__law_draw (by exact hr.mono (by first | decide | omega)) (pacons (pv 0) (pacons (pv 1) (pacons pinT panil)))) pinT (nomark _)) (pone (pcmp opIsN (pv 5) pnon (nomark _)))))
      (psscons (psifc (PW.pt (pwor (ptcmp (opEqK (K := K) (by exact hr.units)) (pcallB (cLenK (K := K)) (by rfl) T.b_len (by decide +kernel) (pacons (pv 2) panil)) pinT (nomark _)) (pwor (ptcmp (opLt (by exact hr.units0)) (pixK (K := K) (pv 4) pinT) pinT (nomark _)) (pwor1 (ptval (pv 6)))))) (pssone (psret (pixK (K := K) (pv 3) (pcall C__law_draw (by exact hr.mono (by first | decide | omega)) (pacons (pv 0) (pacons (pv 1) (pacons (pcallB (cLenK (K := K)) (by rfl) T.b_len (by decide +kernel) (pacons (pv 3) panil)) panil))))))) pssnil)
      (psscons (psset 7 sc__law_tree.nd (pixK (K := K) (pv 2) (pcall C__law_draw (by exact hr.mono (by first | decide | omega)) (pacons (pv 0) (pacons (pv 1) (pacons (pcallB (cLenK (K := K)) (by rfl) T.b_len (by decide +kernel) (pacons (pv 2) panil)) panil))))))
      (psscut (psif (ptcmp opNotN (pv 5) pnon (nomark _)) (pssone (psset 7 sc__law_tree.nd (pv 5))) pssnil)
      (psscons (pssetlcF 8  rfl sc__law_tree.nd rfl (sw_true rfl rfl rfl (by decide +kernel)) (piseqK (K := K) (pv 2)) (blkOk_by (own := [("other", 13)]) (N := ["script", "source", "free", "outcomes", "room", "wish", "stop", "row", "rest", "style", "shared", "children", "move", "other"]) (sc := defScope s__law_tree) (by decide +kernel)) (tgName (by decide)) (fun _ _ _ _ _ => (pg_name (i := 13) sc__law_tree.nd rfl (by first | exact Or.inl rfl | exact Or.inr rfl))) (fun _ _ _ _ _ => (ptsone (ptcmp (opNeK (K := K) (by exact hr.units)) (pixK (K := K) (pv 13) pinT) (pixK (K := K) (pv 7) pinT) (nomark _)))) (fun _ _ _ _ _ => (pv 13)))
      (psscons (psset 9 sc__law_tree.nd (pcall C__law_draw (by exact hr.mono (by first | decide | omega)) (pacons (pv 0) (pacons (pv 1) (pacons pinT panil)))))
      (psscons (psset 10 sc__law_tree.nd pnon)
      (psscut (psif (PW.pt (pwand (ptcmp opGt (pv 9) pinT (nomark _)) (pwand1 (ptcmp opGt (pcallB (cLenK (K := K)) (by rfl) T.b_len (by decide +kernel) (pacons (pv 8) panil)) pinT (nomark _))))) (pssone (psset 10 sc__law_tree.nd (pixK (K := K) (pv 8) (pcall C__law_draw (by exact hr.mono (by first | decide | omega)) (pacons (pv 0) (pacons (pv 1) (pacons (pcallB (cLenK (K := K)) (by rfl) T.b_len (by decide +kernel) (pacons (pv 8) panil)) panil))))))) pssnil)
      (psscons (psset 11 sc__law_tree.nd (plst panil))
      (psscons (psfor PassesOwn.never rfl (pirng1 (by rfl) T.b_range (pacons (pcallB (cLenK (K := K)) (by rfl) T.b_len (by decide +kernel) (pacons (pixK (K := K) (pv 7) pinT) panil)) panil)) (pgname (i := 12) sc__law_tree.nd) (pssone (psifc (PW.pt (pwand (ptcmp opGt (pv 12) pinT (nomark _)) (pwand (ptcmp opIsN (pv 5) pnon (nomark _)) (pwand1 (PW.pt (pwor (ptcmp (opEqK (K := K) (by exact hr.units)) (pv 9) pinT (nomark _)) (pwor1 (PW.pt (pwand (ptcmp (opEqK (K := K) (by exact hr.units)) (pv 9) pinT (nomark _)) (pwand1 (ptcmp (opEqK (K := K) (by exact hr.units)) (pcall C__law_draw (by exact hr.mono (by first | decide | omega)) (pacons (pv 0) (pacons (pv 1) (pacons pinT panil)))) pinT (nomark _)))))))))))) (pssone (psexpr (pbmK (K := K) PySem.F.plainAttrs_list PySem.F.slot_list_append PySem.F.type_list_append mAppend (pv 11) (pacons (pixK (K := K) (pv 11) (pop opSub (pv 12) pinT)) panil)))) (pssone (psexpr (pbmK (K := K) PySem.F.plainAttrs_list PySem.F.slot_list_append PySem.F.type_list_append mAppend (pv 11) (pacons (pcall C__law_tree (by exact hr.mono (by first | decide | omega)) (pacons (pv 0) (pacons (pv 1) (pacons (pv 8) (pacons (pv 3) (pacons (pv 4) (pacons (pv 10) panil))))))) panil)))))))
      (pssone (psret (ptup (pacons (pixK (K := K) (pv 7) pinT) (pacons (pcallTy (cTupleK (K := K)) (by rfl) T.b_tuple (by decide +kernel) (pacons (pv 11) panil)) panil)))))))))))))))), fun vs M Q Ep h => ?_⟩)
    obtain ⟨a, s, f, o, r, ns, rs, us, m, w, rfl, hn, hrl, hul, hu0, hws, e, hf, ho, hr, fs, os, rs0, fr, or_, ra, hwq, k⟩ := h
    have he := He.start1 e hr rs0 ra
    have ulen : (us.map PV.str).length = us.length := List.length_map _
    have upos : 0 < us.length := List.length_pos_iff.mpr hu0
    have rlen : (rs.map Row.pv).length = rs.length := List.length_map _
    walk_at "go"
    replace he := he.up0 (o' := .lst [.int (m - 1)])
    refine ⟨fun σ M' => ∃ b : Bool, σ = [some (.ref a), some (.ref s), some (.ref f), some (.ref o), some (.ref r), some (optR w), some (.bl b), none, none, none, none, none, none, none] ∧ He K [r] a s ns M M' [(r, .lst [.int (m - 1)])], ?_, ?_⟩
    · walk_at "on"
      refine dr he (by decide) (by decide) fun d M2 h0 h1 he => ?_
      walk_at "on"
      refine br_dec (fun h => ?_) (fun h => ?_)
      · walk_at "on"
        cases w <;> exact ⟨_, _, by walk_at "subs", .refl _, _, rfl, he⟩
      · exact ⟨_, _, by walk_at "subs", .refl _, _, rfl, he⟩
    clear he
    rintro σ M1 ⟨b, rfl, he⟩
    walk_at "on"
    refine ⟨fun b M' => M' = M1 ∧ (b = false → rs ≠ []), ?_, ?_⟩
    · walk_at "on"
      refine br_dec (fun h => ?_) (fun h => ?_)
      · exact ⟨_, .refl _, rfl, fun q => by cases q⟩
      have hne : rs ≠ [] := fun q => h (by rw [q]; rfl)
      walk_at "on"
      refine br_dec (fun h => ?_) (fun h => ?_)
      · exact ⟨_, .refl _, rfl, fun q => by cases q⟩
      walk_at "on"
      exact ⟨_, .refl _, rfl, fun _ => hne⟩
    rintro b2 M' ⟨rfl, hne⟩
    refine br_of (fun h => ?_) (fun h => ?_)
    · walk_at "on"
      refine dr he (by rw [ulen]; omega) (bt64 (by rw [ulen]; omega)) fun d M2 h0 h1 he => ?_
      rw [ulen] at h1
      obtain ⟨y, hym, hy⟩ := str_mem h0 h1
      walk_at "on"
      exact ⟨_, .refl _, k (.leaf y) _ _ (.leaf hym) he.env he.keep2 (he.get 0 rfl)⟩
    have rpos : 0 < rs.length := List.length_pos_iff.mpr (hne h)
    walk_at "on"
    refine dr he (by rw [rlen]; omega) (bt64 (by rw [rlen]; omega)) fun d M2 h0 h1 he => ?_
    rw [rlen] at h1
    obtain ⟨q0, hq0, hy0⟩ := row_mem h0 h1
    walk_at "on"
    refine ⟨fun σ M' => ∃ q : Row, q ∈ rs ∧ σ = [some (.ref a), some (.ref s), some (.ref f), some (.ref o), some (.ref r), some (optR w), none, some q.pv, none, none, none, none, none, none] ∧ M' = M2, ?_, ?_⟩
    · cases w with
      | none => walk_at "on"; exact ⟨_, _, by walk_at "subs", .refl _, q0, hq0, rfl, rfl⟩
      | some q => walk_at "on"; exact ⟨_, _, by walk_at "subs", .refl _, q, hwq q rfl, rfl, rfl⟩
    clear hy0 h0 h1
    rintro σ M' ⟨q, hq, rfl, rfl⟩
    have hwq1 := hws q hq
    walk_at "on"
    refine ⟨fun i => !decide ((rs.getD i r0).nm = q.nm), fun i => (rs.getD i r0).pv, by rw [rlen]; omega, fun M3 sb => .inl (sb _ _ (by walk_at "hp")), fun i x M3 Q3 hx sb k3 => ?_, fun i x M3 Q2 hx hb sb k3 => ?_, fun Dl l hD hl => ?_⟩
    · obtain ⟨p, hp, rfl⟩ := row_at hx
      refine ⟨_, rfl, ?_⟩
      simp only [getD_at hp] at k3
      walk_at "on"
      exact k3 _ (.refl _)
    · obtain ⟨p, hp, rfl⟩ := row_at hx
      refine ⟨_, rfl, ?_⟩
      simp only [getD_at hp] at k3
      walk_at "on"
      exact k3 _ (.refl _)
    rw [rlen, flt_list rs r0 (fun p => !decide (p.nm = q.nm)) Row.pv] at hl
    subst hl
    have less := offN_len hq
    have dl : ((rs.filter fun p => !decide (p.nm = q.nm)).map Row.pv).length = (offN rs q.nm).length := List.length_map _
    replace he := he.new (o := .lst ((rs.filter fun p => !decide (p.nm = q.nm)).map Row.pv)) hD
    walk_at "on"
    refine dr he (by decide) (by decide) fun st M3 st0 st1 he => ?_
    walk_at "on"
    refine ⟨fun σ M' => ∃ sh : Option Row, (∀ q', sh = some q' → q' ∈ offN rs q.nm) ∧ σ = [some (.ref a), some (.ref s), none, some (.ref o), some (.ref r), some (optR w), none, some q.pv, some (.ref Dl), some (.int st), some (optR sh), none, none, none] ∧ He K [r] a s ns M M' [(Dl, .lst ((offN rs q.nm).map Row.pv)), (r, .lst [.int (m - 1)])], ?_, ?_⟩
    · walk_at "on"
      refine br_dec (fun h => ?_) (fun h => ?_)
      · walk_at "on"
        refine br_dec (fun h2 => ?_) (fun h2 => ?_)
        · walk_at "on"
          refine dr he (by omega) (bt64 (by rw [dl]; omega)) fun d M4 h0 h1 he => ?_
          rw [dl] at h1
          obtain ⟨q1, hq1, hy1⟩ := row_mem h0 h1
          walk_at "on"
          exact ⟨_, _, by walk_at "subs", .refl _, some q1, fun q' e => by (cases e; exact hq1), rfl, he⟩
        · walk_at "on"; exact ⟨_, _, by walk_at "subs", .refl _, none, fun q' e => by (cases e), rfl, he⟩
      · walk_at "on"; exact ⟨_, _, by walk_at "subs", .refl _, none, fun q' e => by (cases e), rfl, he⟩
    clear he
    rintro σ M4 ⟨sh, hsh, rfl, he⟩
    walk_at "on"
    refine al he fun D2 hD2 he => ?_
    walk_at "on"
    refine ⟨by rw [List.length_map]; omega, ?_⟩
    refine ⟨fun i σ M' => ∃ (cs : List Tr) (m' : Int) (w12 : Option PV), σ = [some (.ref a), some (.ref s), none, some (.ref o), some (.ref r), some (optR w), none, some q.pv, some (.ref Dl), some (.int st), some (optR sh), some (.ref D2), w12, none] ∧ cs.length = i ∧ (∀ c ∈ cs, TOk us (offN rs q.nm) c) ∧ He K [r] a s ns M M' [(D2, .lst (cs.map Tr.pv)), (Dl, .lst ((offN rs q.nm).map Row.pv)), (r, .lst [.int m'])], ⟨_, _, by walk_at "subs", .refl _, [], _, _, rfl, rfl, by simp, he _⟩, ?_, ?_, ?_⟩
    · intros; trivial
    · clear he
      rintro i x σ M5 hx ⟨cs, m', w12, rfl, hci, hcs, he⟩
      obtain ⟨hi, rfl⟩ := rng_get hx
      rw [List.length_map] at hi
      walk_at "on"
      refine ⟨fun b M' => He K [r] a s ns M M' [(D2, .lst (cs.map Tr.pv)), (Dl, .lst ((offN rs q.nm).map Row.pv)), (r, .lst [.int m'])] ∧ (b = true → 0 < i), ?_, ?_⟩
      · walk_at "on"
        refine br_dec (fun h => ?_) (fun h => ?_)
        · have ip : 0 < i := by omega
          cases w with
          | some w => walk_at "on"; exact ⟨_, .refl _, he, fun _ => ip⟩
          | none =>
            walk_at "on"
            refine br_dec (fun h => ?_) (fun h => ?_)
            · exact ⟨_, .refl _, he, fun _ => ip⟩
            · walk_at "on"
              refine br_dec (fun h => ?_) (fun h => ?_)
              · walk_at "on"
                refine dr he (by decide) (by decide) fun d M6 h0 h1 he => ?_
                walk_at "on"
                exact ⟨_, .refl _, he, fun _ => ip⟩
              · exact ⟨_, .refl _, he, fun _ => ip⟩
        · exact ⟨_, .refl _, he, fun q => by (cases q)⟩
      clear he
      rintro b M6 ⟨he, hb⟩
      refine br_of (fun h => ?_) (fun h => ?_)
      · have ip := hb h
        obtain ⟨c, hc⟩ : ∃ c, cs[i - 1]? = some c := ⟨cs[i - 1]'(by omega), List.getElem?_eq_getElem _⟩
        have hat : atI (cs.map Tr.pv) (0 + (i : Int) - 1) = some c.pv := by
          rw [show (0 + (i : Int) - 1) = ((i - 1 : Nat) : Int) by omega]
          exact atI_nat (by rw [List.getElem?_map, hc]; rfl)
        walk_at "on"
        refine ⟨_, he.get 0 rfl, by rw [List.length_map, sizeLine_eq]; omega, ?_⟩
        refine ⟨_, _, by walk_at "subs", .refl _, cs ++ [c], _, _, rfl, by rw [List.length_append, hci]; rfl, fun z hz => ?_, by rw [List.map_append]; walk_at "he"⟩
        rcases List.mem_append.mp hz with h | h
        · exact hcs z h
        · rw [List.mem_singleton.mp h]; exact hcs c (List.mem_of_getElem? hc)
      · walk_at "on"
        refine ⟨a, s, Dl, o, r, ns, offN rs q.nm, us, m', sh, rfl, by omega, by omega, hul, hu0, fun p hp => hws p (offN_sub hp), he.env, he.get 1 rfl, by walk_at "hp", he.get 2 rfl, he.ne_s 1 rfl, os, rs0, he.ne 1 2 (by decide) rfl rfl, or_, ra, hsh, fun t M7 m7 ht e7 k7 hr7 => ?_⟩
        replace he := he.c22 e7 k7 hr7
        walk_at "on"
        refine ⟨_, he.get 0 rfl, by rw [List.length_map, sizeLine_eq]; omega, ?_⟩
        refine ⟨_, _, by walk_at "subs", .refl _, cs ++ [t], _, _, rfl, by rw [List.length_append, hci]; rfl, fun z hz => ?_, by rw [List.map_append]; walk_at "he"⟩
        rcases List.mem_append.mp hz with h | h
        · exact hcs z h
        · rw [List.mem_singleton.mp h]; exact ht
    · clear he
      rintro σ M5 ⟨cs, m', w12, rfl, hci, hcs, he⟩
      rw [rng_len, List.length_map] at hci
      walk_at "on"
      refine ⟨_, .refl _, ?_⟩
      rw [← Tr.pvs_map]
      exact k (.node q.nm cs) _ _ (.node hq (by omega) hcs) he.env he.keep2 (he.get 2 rfl)
  
/-! places in a tree -/
abbrev gameV (rs : List Row) (t : Tr) : PV := .tup [rowsV rs, t.pv]
def trAt : List Int → Tr → Option Tr
  | [], t => some t
  | _ :: _, .leaf _ => none
  | m :: p, .node _ cs => match (if 0 ≤ m then cs[m.toNat]? else none) with
    | some c => trAt p c
    | none => none
theorem trAt_cons {m : Int} {p : List Int} {t u : Tr} (h : trAt (m :: p) t = some u) : ∃ n cs c, t = .node n cs ∧ 0 ≤ m ∧ cs[m.toNat]? = some c ∧ trAt p c = some u := by
  cases t with
  | leaf x => unfold trAt at h; cases h
  | node n cs =>
    unfold trAt at h
    by_cases h0 : 0 ≤ m
    · rw [if_pos h0] at h
      cases e : cs[m.toNat]? with
      | none => rw [e] at h; cases h
      | some c => rw [e] at h; exact ⟨n, cs, c, rfl, h0, e, h⟩
    · rw [if_neg h0] at h; cases h
theorem trAt_node {m : Int} {p : List Int} {n : Str} {cs : List Tr} {c : Tr} (h0 : 0 ≤ m) (h : cs[m.toNat]? = some c) : trAt (m :: p) (.node n cs) = trAt p c := by
  conv => lhs; unfold trAt
  rw [if_pos h0, h]
theorem trAt_off {m : Int} {p : List Int} {n : Str} {cs : List Tr} (h : ¬ (0 ≤ m ∧ m < (cs.length : Int))) : trAt (m :: p) (.node n cs) = none := by
  unfold trAt
  by_cases h0 : 0 ≤ m
  · rw [if_pos h0, List.getElem?_eq_none (by omega)]
  · rw [if_neg h0]
theorem trAt_leaf {m : Int} {p : List Int} {x : Str} : trAt (m :: p) (.leaf x) = none := by unfold trAt; rfl
theorem trAt_app : ∀ {p q : List Int} {t u : Tr}, trAt p t = some u → trAt (p ++ q) t = trAt q u
  | [], q, t, u, h => by cases h; rfl
  | m :: p, q, t, u, h => by
    obtain ⟨n, cs, c, rfl, h1, h2, h3⟩ := trAt_cons h
    rw [List.cons_append, trAt_node h1 h2]
    exact trAt_app h3
theorem drop_at {α : Type} {l : List α} {i : Nat} {x : α} (h : l[i]? = some x) : l.drop i = x :: l.drop (i + 1) := by
  obtain ⟨hi, rfl⟩ := List.getElem?_eq_some_iff.mp h
  exact (List.getElem_cons_drop (h := hi)).symm
theorem kid_at {cs : List Tr} {m : Int} (h0 : 0 ≤ m) (h1 : m < (cs.length : Int)) : ∃ c, cs[m.toNat]? = some c ∧ atI (Tr.pvs cs) m = some c.pv := by
  obtain ⟨k, rfl⟩ : ∃ k : Nat, m = (k : Int) := ⟨m.toNat, by omega⟩
  have hk : k < cs.length := by omega
  refine ⟨cs[k], by rw [Int.toNat_natCast]; exact List.getElem?_eq_getElem hk, ?_⟩
  rw [Tr.pvs_map]
  exact atI_nat (by rw [List.getElem?_map, List.getElem?_eq_getElem hk]; rfl)
theorem pvs_len {cs : List Tr} : (Tr.pvs cs).length = cs.length := by rw [Tr.pvs_map, List.length_map]
theorem kid_of {cs : List Tr} {i : Nat} {p : PV} (h : (Tr.pvs cs)[i]? = some p) : ∃ c, cs[i]? = some c ∧ p = c.pv := by
  rw [Tr.pvs_map, List.getElem?_map] at h
  cases e : cs[i]? with
  | none => rw [e] at h; cases h
  | some z => rw [e] at h; exact ⟨z, rfl, (Option.some.inj h).symm⟩
def Tr.ks : Tr → List Tr
  | .leaf _ => []
  | .node _ cs => cs
/-- another tree in its place -/
def setT : List Int → Tr → Tr → Tr
  | [], u, _ => u
  | _ :: _, _, .leaf x => .leaf x
  | m :: p, u, .node n cs => .node n (match cs[m.toNat]? with | some c => cs.set m.toNat (setT p u c) | none => cs)
theorem setT_node {m : Int} {p : List Int} {u c : Tr} {n : Str} {cs : List Tr} (h : cs[m.toNat]? = some c) : setT (m :: p) u (.node n cs) = .node n (cs.set m.toNat (setT p u c)) := by
  conv => lhs; unfold setT
  rw [h]
theorem set_get {cs : List Tr} {i : Nat} {c d : Tr} (h : cs[i]? = some c) : (cs.set i d)[i]? = some d := List.getElem?_set_self (lt_of_get h)
theorem trAt_setT : ∀ {p : List Int} {t u v : Tr}, trAt p t = some v → trAt p (setT p u t) = some u
  | [], t, u, v, h => rfl
  | m :: p, t, u, v, h => by
    obtain ⟨n, cs, c, rfl, h0, hc, h3⟩ := trAt_cons h
    rw [setT_node hc, trAt_node h0 (set_get hc)]
    exact trAt_setT h3
theorem setT_setT : ∀ {p : List Int} {t u v w : Tr}, trAt p t = some v → setT p w (setT p u t) = setT p w t
  | [], t, u, v, w, h => rfl
  | m :: p, t, u, v, w, h => by
    obtain ⟨n, cs, c, rfl, h0, hc, h3⟩ := trAt_cons h
    rw [setT_node hc, setT_node (set_get hc), setT_setT h3, setT_node hc, List.set_set]
theorem setT_self : ∀ {p : List Int} {t v : Tr}, trAt p t = some v → setT p v t = t
  | [], t, v, h => by cases h; rfl
  | m :: p, t, v, h => by
    obtain ⟨n, cs, c, rfl, h0, hc, h3⟩ := trAt_cons h
    rw [setT_node hc, setT_self h3]
    congr 1
    obtain ⟨hi, rfl⟩ := List.getElem?_eq_some_iff.mp hc
    exact List.set_getElem_self hi
/-- the sets above a place, with the moves -/
def abv : List Int → Tr → List (Str × Int)
  | m :: p, .node n cs => (n, m) :: (match cs[m.toNat]? with | some c => abv p c | none => [])
  | _, _ => []
theorem abv_node {m : Int} {p : List Int} {c : Tr} {n : Str} {cs : List Tr} (h : cs[m.toNat]? = some c) : abv (m :: p) (.node n cs) = (n, m) :: abv p c := by
  conv => lhs; unfold abv
  rw [h]
theorem abv_setT : ∀ {p : List Int} {t u v : Tr}, trAt p t = some v → abv p (setT p u t) = abv p t
  | [], t, u, v, h => by
    have e : ∀ x : Tr, abv [] x = [] := fun x => by cases x <;> rfl
    rw [e, e]
  | m :: p, t, u, v, h => by
    obtain ⟨n, cs, c, rfl, h0, hc, h3⟩ := trAt_cons h
    rw [setT_node hc, abv_node (set_get hc), abv_node hc, abv_setT h3]
abbrev abvN (p : List Int) (t : Tr) : List Str := (abv p t).map Prod.fst
mutual
/-- the sets of a tree -/
def nmT : Tr → List Str
  | .leaf _ => []
  | .node n cs => n :: nmTs cs
def nmTs : List Tr → List Str
  | [] => []
  | c :: r => nmT c ++ nmTs r
end
theorem nmTs_mem {x : Str} : ∀ {cs : List Tr}, x ∈ nmTs cs ↔ ∃ c ∈ cs, x ∈ nmT c
  | [] => by unfold nmTs; simp
  | c :: r => by unfold nmTs; rw [List.mem_append, nmTs_mem (cs := r)]; simp
theorem nmT_node {x n : Str} {cs : List Tr} : x ∈ nmT (.node n cs) ↔ x = n ∨ ∃ c ∈ cs, x ∈ nmT c := by
  conv => lhs; unfold nmT
  rw [List.mem_cons, nmTs_mem]
theorem nmT_leaf {x y : Str} : ¬ x ∈ nmT (.leaf y) := by unfold nmT; simp
theorem offN_mem {rs : List Row} {x : Str} {r : Row} : r ∈ offN rs x ↔ r ∈ rs ∧ r.nm ≠ x := by rw [List.mem_filter]; simp
theorem offN_comm (rs : List Row) (x y : Str) : offN (offN rs x) y = offN (offN rs y) x := by
  rw [offN, offN, offN, offN, List.filter_filter, List.filter_filter]
  exact List.filter_congr fun r _ => Bool.and_comm _ _
/-- the rows left at a place -/
def offP : List Int → Tr → List Row → List Row
  | m :: p, .node n cs, rs => match cs[m.toNat]? with | some c => offP p c (offN rs n) | none => rs
  | _, _, rs => rs
theorem offP_node {m : Int} {p : List Int} {c : Tr} {n : Str} {cs : List Tr} {rs : List Row} (h : cs[m.toNat]? = some c) : offP (m :: p) (.node n cs) rs = offP p c (offN rs n) := by
  conv => lhs; unfold offP
  rw [h]
theorem offP_nil {t : Tr} {rs : List Row} : offP [] t rs = rs := by cases t <;> rfl
theorem TOk.kid {us : List Str} {rs : List Row} {n : Str} {cs : List Tr} (h : TOk us rs (.node n cs)) : ∃ r ∈ rs, r.nm = n ∧ cs.length = r.ws.length ∧ ∀ c ∈ cs, TOk us (offN rs n) c := by
  cases h with
  | node h1 h2 h3 => exact ⟨_, h1, rfl, h2, h3⟩
theorem TOk.at : ∀ {us : List Str} {p : List Int} {rs : List Row} {t v : Tr}, TOk us rs t → trAt p t = some v → TOk us (offP p t rs) v
  | us, [], rs, t, v, h, e => by cases e; rw [offP_nil]; exact h
  | us, m :: p, rs, t, v, h, e => by
    obtain ⟨n, cs, c, rfl, h0, hc, h3⟩ := trAt_cons e
    obtain ⟨r, hr, rfl, hl, hk⟩ := h.kid
    rw [offP_node hc]
    exact TOk.at (hk c (List.mem_of_getElem? hc)) h3
theorem TOk.set : ∀ {us : List Str} {p : List Int} {rs : List Row} {t u v : Tr}, TOk us rs t → trAt p t = some v → TOk us (offP p t rs) u → TOk us rs (setT p u t)
  | us, [], rs, t, u, v, h, e, hu => by rw [offP_nil] at hu; exact hu
  | us, m :: p, rs, t, u, v, h, e, hu => by
    obtain ⟨n, cs, c, rfl, h0, hc, h3⟩ := trAt_cons e
    obtain ⟨r, hr, rfl, hl, hk⟩ := h.kid
    rw [offP_node hc] at hu
    rw [setT_node hc]
    refine .node hr (by rw [List.length_set]; exact hl) fun d hd => ?_
    rcases List.mem_or_eq_of_mem_set hd with q | q
    · exact hk d q
    · rw [q]; exact TOk.set (hk c (List.mem_of_getElem? hc)) h3 hu
theorem offP_mem : ∀ {p : List Int} {rs : List Row} {t v : Tr} {r : Row}, trAt p t = some v → (r ∈ offP p t rs ↔ r ∈ rs ∧ r.nm ∉ abvN p t)
  | [], rs, t, v, r, e => by
    have e : ∀ x : Tr, abvN [] x = [] := fun x => by cases x <;> rfl
    rw [e, offP_nil]; simp
  | m :: p, rs, t, v, r, e => by
    obtain ⟨n, cs, c, rfl, h0, hc, h3⟩ := trAt_cons e
    have e : abvN (m :: p) (.node n cs) = n :: abvN p c := by
      show List.map _ (abv _ _) = _
      rw [abv_node hc]; rfl
    rw [offP_node hc, offP_mem h3, offN_mem, e, List.mem_cons, not_or, and_assoc]
theorem offP_set {p : List Int} {rs : List Row} {t u v : Tr} (h : trAt p t = some v) : offP p (setT p u t) rs = offP p t rs := by
  induction p generalizing t rs with
  | nil => rw [offP_nil, offP_nil]
  | cons m p ih =>
    obtain ⟨n, cs, c, rfl, h0, hc, h3⟩ := trAt_cons h
    rw [setT_node hc, offP_node (set_get hc), offP_node hc, ih h3]
theorem TOk.names {us : List Str} {rs : List Row} {t : Tr} (h : TOk us rs t) : ∀ x ∈ nmT t, ∃ r ∈ rs, r.nm = x := by
  induction h with
  | leaf _ => exact fun x hx => absurd hx nmT_leaf
  | node hr hl hc ih =>
    intro x hx
    rcases nmT_node.mp hx with rfl | ⟨c, hc, hx⟩
    · exact ⟨_, hr, rfl⟩
    · obtain ⟨r, hr, e⟩ := ih c hc x hx
      exact ⟨r, offN_sub hr, e⟩
theorem TOk.wide {us : List Str} {x : Str} {rs : List Row} {t : Tr} (h : TOk us (offN rs x) t) : TOk us rs t := by
  generalize e : offN rs x = qs at h
  induction h generalizing rs with
  | leaf h => exact .leaf h
  | node hr hl hc ih =>
    subst e
    refine .node (offN_sub hr) hl fun c hcm => ih c hcm (offN_comm _ _ _)
theorem TOk.off {us : List Str} {x : Str} {rs : List Row} {t : Tr} (h : TOk us rs t) : x ∉ nmT t → TOk us (offN rs x) t := by
  induction h with
  | leaf h => exact fun _ => .leaf h
  | node hr hl hc ih =>
    intro hx
    refine .node (offN_mem.mpr ⟨hr, fun e => hx (nmT_node.mpr (.inl e.symm))⟩) hl fun c hcm => ?_
    rw [offN_comm]
    exact ih c hcm fun q => hx (nmT_node.mpr (.inr ⟨c, hcm, q⟩))
theorem TOk.not {us : List Str} {x : Str} {rs : List Row} {t : Tr} (h : TOk us (offN rs x) t) : x ∉ nmT t := fun hx => by
  obtain ⟨r, hr, e⟩ := h.names x hx
  exact (offN_mem.mp hr).2 e
theorem TOk.more {us vs : List Str} {rs : List Row} {t : Tr} (h : TOk us rs t) (s : ∀ x ∈ us, x ∈ vs) : TOk vs rs t := by
  induction h with
  | leaf h => exact .leaf (s _ h)
  | node hr hl hc ih => exact .node hr hl ih
theorem TOk.deep : ∀ {us : List Str} {p : List Int} {rs : List Row} {t v : Tr}, TOk us rs t → trAt p t = some v → p.length ≤ rs.length
  | us, [], rs, t, v, h, e => Nat.zero_le _
  | us, m :: p, rs, t, v, h, e => by
    obtain ⟨n, cs, c, rfl, h0, hc, h3⟩ := trAt_cons e
    obtain ⟨r, hr, rfl, hl, hk⟩ := h.kid
    have := TOk.deep (hk c (List.mem_of_getElem? hc)) h3
    have := offN_len hr
    rw [List.length_cons]; omega
/-- rows that a drawn game has -/
structure RsOk (rs : List Row) : Prop where
  nd : (namesOf rs).Nodup
  l1 : ∀ r ∈ rs, 1 ≤ r.ws.length
  l2 : ∀ r ∈ rs, r.ws.length ≤ 1000
  le : rs.length ≤ 7
theorem RsOk.off {rs : List Row} {x : Str} (h : RsOk rs) : RsOk (offN rs x) :=
  ⟨h.nd.sublist (List.filter_sublist.map _), fun r hr => h.l1 r (offN_sub hr), fun r hr => h.l2 r (offN_sub hr), Nat.le_trans (List.length_filter_le _ _) h.le⟩
theorem TOk.txt {us : List Str} : ∀ {n : Nat} {rs : List Row} {t : Tr}, TOk us rs t → (∀ r ∈ rs, r.ws.length ≤ 1000) → rs.length ≤ n → TxtD (2 * n + 1) t.pv
  | n, rs, _, .leaf _, _, _ => .str _
  | 0, rs, _, .node hr _ _, _, h => by have := List.length_pos_of_mem hr; omega
  | n + 1, rs, _, .node (r := r) (cs := cs) hr hl hc, h2, h => by
    have less := offN_len hr
    show TxtD ((2 * n + 1) + 1 + 1) (.tup [.str r.nm, .tup (Tr.pvs cs)])
    refine .tup (by show 2 ≤ 16777216; decide) fun x hx => ?_
    rcases List.mem_cons.mp hx with rfl | hx
    · exact .str _
    · rw [List.mem_singleton.mp hx]
      have := h2 _ hr
      refine .tup (by rw [pvs_len]; omega) fun y hy => ?_
      rw [Tr.pvs_map] at hy
      obtain ⟨c, hcm, rfl⟩ := List.mem_map.mp hy
      exact TOk.txt (hc c hcm) (fun q hq => h2 q (offN_sub hq)) (by omega)
theorem TxtD.more : ∀ {n m : Nat} {x : PV}, TxtD n x → n ≤ m → TxtD m x
  | _, m, _, .non, h => by obtain ⟨k, rfl⟩ : ∃ k, m = k + 1 := ⟨m - 1, by omega⟩; exact .non
  | _, m, _, .int i, h => by obtain ⟨k, rfl⟩ : ∃ k, m = k + 1 := ⟨m - 1, by omega⟩; exact .int i
  | _, m, _, .str i, h => by obtain ⟨k, rfl⟩ : ∃ k, m = k + 1 := ⟨m - 1, by omega⟩; exact .str i
  | n + 1, m, _, .tup h1 h2, h => by
    obtain ⟨k, rfl⟩ : ∃ k, m = k + 1 := ⟨m - 1, by omega⟩
    exact .tup h1 fun x hx => TxtD.more (h2 x hx) (by omega)
mutual
theorem Tr.pv_inj : ∀ {t u : Tr}, t.pv = u.pv → t = u
  | .leaf x, .leaf y, h => by cases h; rfl
  | .leaf x, .node n cs, h => by cases h
  | .node n cs, .leaf x, h => by cases h
  | .node n cs, .node m ds, h => by
    have h1 : PV.tup [.str n, .tup (Tr.pvs cs)] = PV.tup [.str m, .tup (Tr.pvs ds)] := h
    have h2 : n = m ∧ Tr.pvs cs = Tr.pvs ds := by simpa using h1
    rw [h2.1, Tr.pvs_inj h2.2]
theorem Tr.pvs_inj : ∀ {t u : List Tr}, Tr.pvs t = Tr.pvs u → t = u
  | [], [], h => rfl
  | [], _ :: _, h => by cases h
  | _ :: _, [], h => by cases h
  | a :: r, b :: q, h => by
    have h2 : a.pv = b.pv ∧ Tr.pvs r = Tr.pvs q := by simpa [Tr.pvs] using h
    rw [Tr.pv_inj h2.1, Tr.pvs_inj h2.2]
end
/-! the three steps -/
/-- grandchildren become children -/
def turn (n : Str) (cs : List Tr) (k : Nat) : List Tr := mk k fun i => .node n (cs.map fun c => c.ks.getD i (.leaf n))
def Tr.isN (l : Str) : Tr → Bool
  | .leaf _ => false
  | .node m _ => decide (m = l)
def swapU (u u' : Tr) : Prop := ∃ n cs l ks, u = .node n cs ∧ cs[0]? = some (.node l ks) ∧ (∀ c ∈ cs, c.isN l = true) ∧ u' = .node l (turn n cs ks.length)
def takeU (u u' : Tr) : Prop := ∃ n cs, u = .node n cs ∧ cs[0]? = some u' ∧ ∀ c ∈ cs, c = u'
def putU (rs : List Row) (ab : List Str) (x : Str) (u u' : Tr) : Prop := ∃ r ∈ rs, r.nm = x ∧ x ∉ nmT u ∧ x ∉ ab ∧ u' = .node x (List.replicate r.ws.length u)
/-- o is the answer of a step at p -/
def StO (R : Tr → Tr → Prop) (p : List Int) (t : Tr) (o : Option Tr) : Prop := match o with
  | some t' => ∃ u u', trAt p t = some u ∧ R u u' ∧ t' = setT p u' t
  | none => ∀ u u', trAt p t = some u → ¬ R u u'
theorem StO.ex (R : Tr → Tr → Prop) (p : List Int) (t : Tr) : ∃ o, StO R p t o := by
  by_cases h : ∃ u u', trAt p t = some u ∧ R u u'
  · obtain ⟨u, u', h1, h2⟩ := h
    exact ⟨some (setT p u' t), u, u', h1, h2, rfl⟩
  · exact ⟨none, fun u u' h1 h2 => h ⟨u, u', h1, h2⟩⟩
theorem StO.no {R : Tr → Tr → Prop} {p : List Int} {t : Tr} {o : Option Tr} (h : StO R p t o) (n : ∀ u u', trAt p t = some u → ¬ R u u') : o = none := by
  cases o with
  | none => rfl
  | some t' => obtain ⟨u, u', h1, h2, _⟩ := h; exact absurd h2 (n u u' h1)
theorem StO.off {R : Tr → Tr → Prop} {p : List Int} {t : Tr} {o : Option Tr} (h : StO R p t o) (n : trAt p t = none) : o = none := h.no fun u u' h1 => by rw [n] at h1; cases h1
def Fnl (R : Tr → Tr → Prop) : Prop := ∀ u a b, R u a → R u b → a = b
theorem StO.yes {R : Tr → Tr → Prop} {p : List Int} {t u u' : Tr} {o : Option Tr} (h : StO R p t o) (f : Fnl R) (h1 : trAt p t = some u) (h2 : R u u') : o = some (setT p u' t) := by
  cases o with
  | none => exact absurd h2 (h u u' h1)
  | some t' =>
    obtain ⟨v, v', g1, g2, rfl⟩ := h
    rw [h1] at g1; cases g1
    rw [f _ _ _ h2 g2]
theorem fnl_swap : Fnl swapU := by
  rintro u a b ⟨n, cs, l, ks, rfl, h1, _, rfl⟩ ⟨n', cs', l', ks', e, h1', _, rfl⟩
  cases e
  rw [h1] at h1'; cases h1'
  rfl
theorem fnl_take : Fnl takeU := by
  rintro u a b ⟨n, cs, rfl, h1, _⟩ ⟨n', cs', e, h1', _⟩
  cases e
  rw [h1] at h1'; cases h1'
  rfl
theorem row_eq {rs : List Row} (nd : (namesOf rs).Nodup) {a b : Row} (ha : a ∈ rs) (hb : b ∈ rs) (e : a.nm = b.nm) : a = b := by
  induction rs with
  | nil => cases ha
  | cons x l ih =>
    have nd2 := List.nodup_cons.mp (show (x.nm :: namesOf l).Nodup from nd)
    rcases List.mem_cons.mp ha with ea | ha' <;> rcases List.mem_cons.mp hb with eb | hb'
    · rw [ea, eb]
    · subst ea; exact absurd (e ▸ List.mem_map_of_mem hb') nd2.1
    · subst eb; exact absurd (e ▸ List.mem_map_of_mem ha') nd2.1
    · exact ih nd2.2 ha' hb'
theorem fnl_put {rs : List Row} {ab : List Str} {x : Str} (nd : (namesOf rs).Nodup) : Fnl (putU rs ab x) := by
  rintro u a b ⟨r, hr, e, _, _, rfl⟩ ⟨q, hq, e', _, _, rfl⟩
  rw [row_eq nd hr hq (e.trans e'.symm)]
/-! they stay in their kind, and are undone -/
theorem isN_of {c : Tr} {l : Str} (h : c.isN l = true) : ∃ ks, c = .node l ks := by
  cases c with
  | leaf x => cases h
  | node m ks => exact ⟨ks, by rw [show m = l from of_decide_eq_true h]⟩
theorem isN_not {c : Tr} {l m : Str} {ks : List Tr} (h : m ≠ l) : (Tr.node m ks).isN l = false := decide_eq_false h
theorem turn_len {n : Str} {cs : List Tr} {k : Nat} : (turn n cs k).length = k := mk_len
theorem turn_get {n : Str} {cs : List Tr} {k i : Nat} (h : i < k) : (turn n cs k)[i]? = some (.node n (cs.map fun c => c.ks.getD i (.leaf n))) := by
  unfold turn mk
  rw [List.getElem?_map, List.getElem?_range h]; rfl
theorem turn_mem {n : Str} {cs : List Tr} {k : Nat} {d : Tr} (h : d ∈ turn n cs k) : ∃ i, i < k ∧ d = .node n (cs.map fun c => c.ks.getD i (.leaf n)) := by
  unfold turn mk at h
  obtain ⟨i, hi, rfl⟩ := List.mem_map.mp h
  exact ⟨i, List.mem_range.mp hi, rfl⟩
/-- under one set all have as many children -/
theorem TOk.arity {us : List Str} {rs : List Row} (nd : (namesOf rs).Nodup) {l : Str} {a b : List Tr} (ha : TOk us rs (.node l a)) (hb : TOk us rs (.node l b)) : a.length = b.length := by
  obtain ⟨r, hr, e, h1, _⟩ := ha.kid
  obtain ⟨q, hq, e', h2, _⟩ := hb.kid
  rw [h1, h2, row_eq nd hr hq (e.trans e'.symm)]
theorem swap_ok {us : List Str} {rs : List Row} {u u' : Tr} (ok : RsOk rs) (h : TOk us rs u) (s : swapU u u') : TOk us rs u' := by
  obtain ⟨n, cs, l, ks, rfl, h0, hall, rfl⟩ := s
  obtain ⟨r, hr, rfl, hl, hk⟩ := h.kid
  have h1 := hk _ (List.mem_of_getElem? h0)
  obtain ⟨q, hq, rfl, hql, hqk⟩ := h1.kid
  have hq2 := offN_mem.mp hq
  refine .node hq2.1 (by rw [turn_len]; exact hql) fun d hd => ?_
  obtain ⟨i, hi, rfl⟩ := turn_mem hd
  refine .node (offN_mem.mpr ⟨hr, hq2.2.symm⟩) (by rw [List.length_map]; exact hl) fun e he => ?_
  obtain ⟨c, hc, rfl⟩ := List.mem_map.mp he
  obtain ⟨kc, rfl⟩ := isN_of (hall c hc)
  have hcl := TOk.arity (ok.off (x := r.nm)).nd (hk _ hc) h1
  obtain ⟨q', hq', e', hql', hqk'⟩ := (hk _ hc).kid
  show TOk us _ (kc.getD i _)
  have hik : i < kc.length := by omega
  rw [getD_at (List.getElem?_eq_getElem hik), offN_comm]
  exact hqk' _ (List.getElem_mem hik)
theorem swap_back {us : List Str} {rs : List Row} {u u' : Tr} (ok : RsOk rs) (h : TOk us rs u) (s : swapU u u') : swapU u' u := by
  obtain ⟨n, cs, l, ks, rfl, h0, hall, rfl⟩ := s
  obtain ⟨r, hr, rfl, hl, hk⟩ := h.kid
  have h1 := hk _ (List.mem_of_getElem? h0)
  obtain ⟨q, hq, rfl, hql, hqk⟩ := h1.kid
  have hq2 := offN_mem.mp hq
  have k1 : 1 ≤ ks.length := by rw [hql]; exact ok.l1 _ hq2.1
  refine ⟨q.nm, _, r.nm, _, rfl, turn_get (by omega), fun d hd => ?_, ?_⟩
  · obtain ⟨i, hi, rfl⟩ := turn_mem hd
    exact decide_eq_true rfl
  · rw [List.length_map]
    congr 1
    refine List.ext_getElem? fun j => ?_
    by_cases hj : j < cs.length
    · rw [turn_get hj, List.getElem?_eq_getElem hj]
      have hm := List.getElem_mem hj
      obtain ⟨kc, hkc⟩ := isN_of (hall _ hm)
      have hcl := TOk.arity (ok.off (x := r.nm)).nd (hkc ▸ hk _ hm) h1
      rw [hkc]
      congr 2
      unfold turn
      rw [mk_map]
      refine (mk_of kc (.leaf r.nm)).trans ?_
      rw [hcl]
      unfold mk
      refine List.map_congr_left fun i hi => ?_
      show _ = (List.map _ cs).getD j _
      refine (getD_at ?_).symm
      rw [List.getElem?_map, List.getElem?_eq_getElem hj, hkc]; rfl
    · rw [List.getElem?_eq_none (by omega), List.getElem?_eq_none (by rw [turn_len]; omega)]
theorem take_ok {us : List Str} {rs : List Row} {u u' : Tr} (h : TOk us rs u) (s : takeU u u') : TOk us rs u' := by
  obtain ⟨n, cs, rfl, h0, _⟩ := s
  obtain ⟨r, hr, rfl, hl, hk⟩ := h.kid
  have := hk _ (List.mem_of_getElem? h0)
  exact this.wide
theorem put_ok {us : List Str} {rs qs : List Row} {ab : List Str} {x : Str} {u u' : Tr} (hq : ∀ r, r ∈ qs ↔ r ∈ rs ∧ r.nm ∉ ab) (h : TOk us qs u) (s : putU rs ab x u u') : TOk us qs u' := by
  obtain ⟨r, hr, rfl, h1, h2, rfl⟩ := s
  refine .node ((hq r).mpr ⟨hr, h2⟩) (by rw [List.length_replicate]) fun c hc => ?_
  rw [List.eq_of_mem_replicate hc]
  exact h.off h1
theorem put_back {rs : List Row} {ab : List Str} {x : Str} {u u' : Tr} (l1 : ∀ r ∈ rs, 1 ≤ r.ws.length) (s : putU rs ab x u u') : takeU u' u := by
  obtain ⟨r, hr, rfl, h1, h2, rfl⟩ := s
  refine ⟨_, _, rfl, ?_, fun c hc => List.eq_of_mem_replicate hc⟩
  rw [List.getElem?_replicate, if_pos (by have := l1 r hr; omega)]
theorem take_back {us : List Str} {rs qs : List Row} {ab : List Str} {x : Str} {cs : List Tr} {u' : Tr} (hq : ∀ r, r ∈ qs ↔ r ∈ rs ∧ r.nm ∉ ab) (h : TOk us qs (.node x cs)) (s : takeU (.node x cs) u') : putU rs ab x u' (.node x cs) := by
  obtain ⟨n, cs', e, h0, hall⟩ := s
  cases e
  obtain ⟨r, hr, rfl, hl, hk⟩ := h.kid
  obtain ⟨hr1, hr2⟩ := (hq r).mp hr
  refine ⟨r, hr1, rfl, (hk _ (List.mem_of_getElem? h0)).not, hr2, ?_⟩
  rw [← hl]
  congr 1
  exact List.eq_replicate_iff.mpr ⟨rfl, hall⟩

def sp__law_row (K : Kf) : PSpec := fun vs M Q _ => ∃ (rs : List Row) (x : Str), vs = [rowsV rs, .str x] ∧ (∀ r, rs.find? (fun r => decide (r.nm = x)) = some r → Q r.pv M) ∧ (rs.find? (fun r => decide (r.nm = x)) = none → Q .non M)
theorem sp__law_row_len {K : Kf} {vs : List PV} {M : PHp} {Q : PVK} {E : PXK} (h : sp__law_row K vs M Q E) : vs.length = 2 := by
  obtain ⟨_, _, rfl, _⟩ := h; rfl

theorem ok__law_row {P : Program} {w : World} {K : Kf} {mg : Str → Option Value} {base : Heap} (h0 : Here K mg "_law_row" s__law_row ["rows", "name"]) (T : Blt mg) (XC : Xc K mg) (Su : Sure P base)  : Callee P w K mg base 34 "_law_row" ["rows", "name"] (sp__law_row K) := by
  refine ok_of h0 sc__law_row (fun vs M Q E h => sp__law_row_len h) (fun f cdv A outer s H E hr => ⟨_, (psscons (psfor PassesOwn.never rfl (piseqK (K := K) (pv 0)) (pgname (i := 2) sc__law_row.nd) (pssone (psif (ptcmp (opEqK (K := K) (by exact hr.units)) (pixK (K := K) (pv 2) pinT) (pv 1) (nomark _)) (pssone (psret (pv 2))) pssnil)))
      (pssone (psret pnon))), fun vs M Q Ep h => ?_⟩)
  obtain ⟨rs, x, rfl, k1, k2⟩ := h
  walk_at "go"
  refine ⟨fun i σ M1 => ∃ w2 : Option PV, σ = [some (rowsV rs), some (.str x), w2] ∧ M1 = M ∧ ∀ (j : Nat) y, j < i → rs[j]? = some y → y.nm ≠ x, ⟨_, _, .refl _, .refl _, _, rfl, rfl, fun j _ hj => absurd hj (by omega)⟩, ?_, ?_, ?_⟩
  · intros; trivial
  · rintro i p σ M1 hp ⟨w2, rfl, rfl, hno⟩
    obtain ⟨r, hr, rfl⟩ := row_at hp
    walk_at "on"
    refine br_dec (fun e => ?_) (fun e => ?_)
    · walk_at "on"
      exact ⟨_, .refl _, k1 r (find_at hr (decide_eq_true e) fun j y hj hy => decide_eq_false (hno j y hj hy))⟩
    · walk_at "on"
      refine ⟨_, _, by walk_at "subs", .refl _, _, rfl, rfl, fun j y hj hy => ?_⟩
      by_cases q : j = i
      · subst q; rw [hr] at hy; cases hy; exact e
      · exact hno j y (by omega) hy
  · rintro σ M1 ⟨w2, rfl, rfl, hno⟩
    rw [List.length_map] at hno
    walk_at "on"
    exact ⟨_, .refl _, k2 (find_no fun j y hy => decide_eq_false (hno j y (lt_of_get hy) hy))⟩

mutual
/-- the same data, at most n deep: lists by what stands in them -/
inductive TD (K : Kf) (M : PHp) : Nat → PV → PV → Prop
  | non {n} : TD K M (n + 1) .non .non
  | bl {n} (b) : TD K M (n + 1) (.bl b) (.bl b)
  | int {n} (i) : TD K M (n + 1) (.int i) (.int i)
  | str {n} (x) : TD K M (n + 1) (.str x) (.str x)
  | tup {n l l'} : l.length ≤ 16777216 → TDs K M n l l' → TD K M (n + 1) (.tup l) (.tup l')
  | lst {n a b l l'} : M a = some (.lst l) → M b = some (.lst l') → l.length ≤ 16777216 → TDs K M n l l' → TD K M (n + 1) (.ref a) (.ref b)
inductive TDs (K : Kf) (M : PHp) : Nat → List PV → List PV → Prop
  | nil {n} : TDs K M n [] []
  | cons {n p q l l'} : TD K M n p q → TDs K M n l l' → TDs K M n (p :: l) (q :: l')
end
theorem TDs.len {K : Kf} {M : PHp} {n : Nat} : ∀ {l l' : List PV}, TDs K M n l l' → l.length = l'.length
  | [], _, .nil => rfl
  | _ :: _, _, .cons _ h => congrArg (· + 1) (TDs.len h)
theorem TDs.get {K : Kf} {M : PHp} {n : Nat} : ∀ {l l' : List PV} {i : Nat}, TDs K M n l l' → i < l.length → ∃ x y, l[i]? = some x ∧ l'[i]? = some y ∧ TD K M n x y
  | _, _, 0, .cons h _, _ => ⟨_, _, rfl, rfl, h⟩
  | _, _, i + 1, .cons _ h, hi => TDs.get (i := i) h (Nat.lt_of_succ_lt_succ hi)
theorem TDs.of {K : Kf} {M : PHp} {n : Nat} : ∀ {l l' : List PV}, l.length = l'.length → (∀ (i : Nat) x y, l[i]? = some x → l'[i]? = some y → TD K M n x y) → TDs K M n l l'
  | [], [], _, _ => .nil
  | x :: l, y :: l', e, h => .cons (h 0 x y rfl rfl) (TDs.of (Nat.succ.inj e) fun i x y h1 h2 => h (i + 1) x y h1 h2)
  | [], _ :: _, e, _ => by cases e
  | _ :: _, [], e, _ => by cases e
theorem PureD.td {K : Kf} {M : PHp} : ∀ {n : Nat} {x : PV}, PureD n x → TD K M n x x
  | _, _, .non => .non
  | _, _, .bl _ => .bl _
  | _, _, .int _ => .int _
  | _, _, .str _ => .str _
  | n + 1, .tup l, .tup h1 h2 => .tup h1 (.of rfl fun i x y e1 e2 => by rw [e1] at e2; cases e2; exact PureD.td (h2 x (List.mem_of_getElem? e1)))
def sp__law_told (K : Kf) (n : Nat) : PSpec := fun vs M Q _ => ∃ x y, vs = [x, y] ∧ TD K M n x y ∧ Q (.bl true) M
theorem sp__law_told_len {K : Kf} {n : Nat} {vs : List PV} {M : PHp} {Q : PVK} {E : PXK} (h : sp__law_told K n vs M Q E) : vs.length = 2 := by
  obtain ⟨_, _, rfl, _⟩ := h; rfl
theorem sp__law_told_zero {K : Kf} {vs : List PV} {M : PHp} {Q : PVK} {E : PXK} (h : sp__law_told K 0 vs M Q E) : False := by
  obtain ⟨_, _, rfl, h, _⟩ := h; cases h

theorem ok__law_told {P : Program} {w : World} {K : Kf} {mg : Str → Option Value} {base : Heap} (h0 : Here K mg "_law_told" s__law_told ["answer", "due"]) (T : Blt mg) (XC : Xc K mg) (Su : Sure P base)  : ∀ n : Nat, Callee P w K mg base (34 + n) "_law_told" ["answer", "due"] (sp__law_told K n)
  | 0 => (Callee.never (k := 33) h0 sc__law_told).imp fun _ _ _ _ h => (sp__law_told_zero h).elim
  | n + 1 => by
    have C__law_told := ok__law_told (P := P) (w := w) (base := base) h0 T XC Su  n
    refine ok_of (k := 34 + n) h0 sc__law_told (fun vs M Q E h => sp__law_told_len h) (fun f cdv A outer s H E hr => ⟨_, (psscons (psif (ptcmp opIsN (pv 1) pnon (nomark _)) (pssone (psret (pcmp opIsN (pv 0) pnon (nomark _)))) pssnil)
      (psscons (psif (PW.pt (pwor (ptval (pcallB (cIsiK (K := K)) (by rfl) T.b_isinstance (by decide +kernel) (pacons (pv 1) (pacons (pbltn (p := .ty "bool") (v := .ty "bool") (by rfl) T.b_bool (by decide +kernel) rfl (fun _ => .ty _)) panil)))) (pwor1 (ptval (pcallB (cIsiK (K := K)) (by rfl) T.b_isinstance (by decide +kernel) (pacons (pv 0) (pacons (pbltn (p := .ty "bool") (v := .ty "bool") (by rfl) T.b_bool (by decide +kernel) rfl (fun _ => .ty _)) panil))))))) (pssone (psret (pand (pcallB (cIsiK (K := K)) (by rfl) T.b_isinstance (by decide +kernel) (pacons (pv 1) (pacons (pbltn (p := .ty "bool") (v := .ty "bool") (by rfl) T.b_bool (by decide +kernel) rfl (fun _ => .ty _)) panil))) (pand (pcallB (cIsiK (K := K)) (by rfl) T.b_isinstance (by decide +kernel) (pacons (pv 0) (pacons (pbltn (p := .ty "bool") (v := .ty "bool") (by rfl) T.b_bool (by decide +kernel) rfl (fun _ => .ty _)) panil))) (pone (pcmp (opEqK (K := K) (by exact hr.units)) (pv 0) (pv 1) (nomark _))))))) pssnil)
      (psscons (psif (ptval (pcallB (cIsiK (K := K)) (by rfl) T.b_isinstance (by decide +kernel) (pacons (pv 1) (pacons (pbltn (p := .ty "int") (v := .ty "int") (by rfl) T.b_int (by decide +kernel) rfl (fun _ => .ty _)) panil)))) (pssone (psret (pand (pcallB (cIsiK (K := K)) (by rfl) T.b_isinstance (by decide +kernel) (pacons (pv 0) (pacons (pbltn (p := .ty "int") (v := .ty "int") (by rfl) T.b_int (by decide +kernel) rfl (fun _ => .ty _)) panil))) (pone (pcmp (opEqK (K := K) (by exact hr.units)) (pv 0) (pv 1) (nomark _)))))) pssnil)
      (psscons (psif (ptval (pcallB (cIsiK (K := K)) (by rfl) T.b_isinstance (by decide +kernel) (pacons (pv 1) (pacons (pbltn (p := .ty "str") (v := .ty "str") (by rfl) T.b_str (by decide +kernel) rfl (fun _ => .ty _)) panil)))) (pssone (psret (pand (pcallB (cIsiK (K := K)) (by rfl) T.b_isinstance (by decide +kernel) (pacons (pv 0) (pacons (pbltn (p := .ty "str") (v := .ty "str") (by rfl) T.b_str (by decide +kernel) rfl (fun _ => .ty _)) panil))) (pone (pcmp (opEqK (K := K) (by exact hr.units)) (pv 0) (pv 1) (nomark _)))))) pssnil)
      (psscons (psif (ptval (pcallB (cIsiK (K := K)) (by rfl) T.b_isinstance (by decide +kernel) (pacons (pv 1) (pacons (pbltn (p := .ty "dict") (v := .ty "dict") (by rfl) T.b_dict (by decide +kernel) rfl (fun _ => .ty _)) panil)))) pssdead pssnil)
      (psscons (psif (PW.pt (pwor (ptcmp (opNeK (K := K) (by exact hr.units)) (pcallB (cIsiK (K := K)) (by rfl) T.b_isinstance (by decide +kernel) (pacons (pv 1) (pacons (pbltn (p := .ty "tuple") (v := .ty "tuple") (by rfl) T.b_tuple (by decide +kernel) rfl (fun _ => .ty _)) panil))) (pcallB (cIsiK (K := K)) (by rfl) T.b_isinstance (by decide +kernel) (pacons (pv 0) (pacons (pbltn (p := .ty "tuple") (v := .ty "tuple") (by rfl) T.b_tuple (by decide +kernel) rfl (fun _ => .ty _)) panil))) (nomark _)) (pwor1 (ptcmp (opNeK (K := K) (by exact hr.units)) (pcallB (cIsiK (K := K)) (by rfl) T.b_isinstance (by decide +kernel) (pacons (pv 1) (pacons (pbltn (p := .ty "list") (v := .ty "list") (by rfl) T.b_list (by decide +kernel) rfl (fun _ => .ty _)) panil))) (pcallB (cIsiK (K := K)) (by rfl) T.b_isinstance (by decide +kernel) (pacons (pv 0) (pacons (pbltn (p := .ty "list") (v := .ty "list") (by rfl) T.b_list (by decide +kernel) rfl (fun _ => .ty _)) panil))) (nomark _))))) (pssone (psret pbl)) pssnil)
      (psscons (psif (PW.pt (pwor (ptnot (ptval (pcallB (cIsiTK (K := K)) (by rfl) T.b_isinstance (by decide +kernel) (pacons (pv 0) (pacons (ptup (pacons (pbltn (p := .ty "tuple") (v := .ty "tuple") (by rfl) T.b_tuple (by decide +kernel) rfl (fun _ => .ty _)) (pacons (pbltn (p := .ty "list") (v := .ty "list") (by rfl) T.b_list (by decide +kernel) rfl (fun _ => .ty _)) panil))) panil))))) (pwor1 (ptcmp (opNeK (K := K) (by exact hr.units)) (pcallB (cLenK (K := K)) (by rfl) T.b_len (by decide +kernel) (pacons (pv 0) panil)) (pcallB (cLenK (K := K)) (by rfl) T.b_len (by decide +kernel) (pacons (pv 1) panil)) (nomark _))))) (pssone (psret pbl)) pssnil)
      (psscons (psfor PassesOwn.never rfl (pirng1 (by rfl) T.b_range (pacons (pcallB (cLenK (K := K)) (by rfl) T.b_len (by decide +kernel) (pacons (pv 1) panil)) panil)) (pgname (i := 2) sc__law_told.nd) (pssone (psif (ptnot (ptval (pcall C__law_told (by exact hr.mono (by first | decide | omega)) (pacons (pixK (K := K) (pv 0) (pv 2)) (pacons (pixK (K := K) (pv 1) (pv 2)) panil))))) (pssone (psret pbl)) pssnil)))
      (pssone (psret pbl)))))))))), fun vs M Q Ep h => ?_⟩)
    obtain ⟨x, y, rfl, hd, k⟩ := h
    cases hd with
    | non =>
      walk_at "go"
      exact ⟨_, .refl _, k⟩
    | bl b =>
      walk_at "go"
      refine ⟨_, .refl _, ?_⟩
      rw [decide_eq_true rfl]; exact k
    | int i =>
      walk_at "go"
      refine ⟨_, .refl _, ?_⟩
      rw [decide_eq_true rfl]; exact k
    | str z =>
      walk_at "go"
      refine ⟨_, .refl _, ?_⟩
      rw [decide_eq_true rfl]; exact k
    | @tup _ l l' hl ht =>
      have e := ht.len
      walk_at "go"
      refine br_f (by simp) ?_
      walk_at "on"
      refine br_f (by simp) ?_
      walk_at "on"
      refine ⟨"tuple", ["tuple", "list"], rfl, rfl, by decide, ?_⟩
      walk_at "on"
      refine br_f (by decide) ?_
      walk_at "on"
      refine br_f (by simp [e]) ?_
      walk_at "on"
      refine ⟨by omega, ?_⟩
      refine ⟨fun i σ M1 => σ = [some (.tup l), some (.tup l'), none, none] ∧ M1 = M, ⟨_, _, .refl _, .refl _, rfl, rfl⟩, ?_, ?_, ?_⟩
      · intros; trivial
      · rintro i p σ M1 hp ⟨rfl, rfl⟩
        obtain ⟨hi, rfl⟩ := rng_get hp
        obtain ⟨x, y, e1, e2, hxy⟩ := ht.get (i := i) (by omega)
        rw [show (0 : Int) + (i : Int) = (i : Int) by omega]
        have a1 := atI_nat e1
        have a2 := atI_nat e2
        walk_at "on"
        refine ⟨_, _, rfl, hxy, ?_⟩
        walk_at "on"
        exact ⟨_, _, by walk_at "subs", .refl _, rfl, rfl⟩
      · rintro σ M1 ⟨rfl, rfl⟩
        walk_at "on"
        exact ⟨_, .refl _, k⟩
    | @lst _ a b l l' h1 h2 hl ht =>
      have e := ht.len
      walk_at "go"
      refine br_f (by simp) ?_
      walk_at "on"
      refine br_f (by simp) ?_
      walk_at "on"
      refine ⟨"list", ["tuple", "list"], .inl ⟨_, h1, rfl⟩, rfl, by decide, ?_⟩
      walk_at "on"
      refine br_f (by decide) ?_
      walk_at "on"
      refine br_f (by simp [e]) ?_
      walk_at "on"
      refine ⟨by omega, ?_⟩
      refine ⟨fun i σ M1 => σ = [some (.ref a), some (.ref b), none, none] ∧ M1 = M, ⟨_, _, .refl _, .refl _, rfl, rfl⟩, ?_, ?_, ?_⟩
      · intros; trivial
      · rintro i p σ M1 hp ⟨rfl, rfl⟩
        obtain ⟨hi, rfl⟩ := rng_get hp
        obtain ⟨x, y, e1, e2, hxy⟩ := ht.get (i := i) (by omega)
        rw [show (0 : Int) + (i : Int) = (i : Int) by omega]
        have a1 := atI_nat e1
        have a2 := atI_nat e2
        walk_at "on"
        refine ⟨_, _, rfl, hxy, ?_⟩
        walk_at "on"
        exact ⟨_, _, by walk_at "subs", .refl _, rfl, rfl⟩
      · rintro σ M1 ⟨rfl, rfl⟩
        walk_at "on"
        exact ⟨_, .refl _, k⟩
  
abbrev lettersS : Str := "abcdefghijklmnopqrstuvwxyz"
abbrev digitsS : Str := "0123456789"
def sgnB (c : Nat) : Bool := hasS ⟨#[c]⟩ lettersS || hasS ⟨#[c]⟩ digitsS
def nameB (w : Str) : Bool := decide (1 ≤ w.length ∧ w.length ≤ 12) && (match w.cps[0]? with | some c => hasS ⟨#[c]⟩ lettersS | none => false) && w.cps.toList.all sgnB
theorem low_in : ∀ c ∈ lowC, hasS ⟨#[c]⟩ lettersS = true := by decide +kernel
theorem sig_in : ∀ c ∈ signC, sgnB c = true := by decide +kernel
theorem Nm.nameB {x : Str} (h : Nm x) : nameB x = true := by
  obtain ⟨c, r, e, h1, h2, h3⟩ := h.ex
  have hl : x.length = 1 + r.length := by rw [str_len, e, List.length_cons]; omega
  have h0 : x.cps[0]? = some c := by rw [← Array.getElem?_toList, e]; rfl
  unfold PL.nameB
  rw [h0, decide_eq_true (by omega), Bool.true_and]
  show (hasS ⟨#[c]⟩ lettersS && x.cps.toList.all sgnB) = true
  rw [low_in c h1, Bool.true_and, e, List.all_cons]
  have hs : sgnB c = true := by unfold sgnB; rw [low_in c h1]; rfl
  rw [hs, Bool.true_and, List.all_eq_true]
  exact fun d hd => sig_in d (h2 d hd)
def headB (w : Str) : Bool := decide (1 ≤ w.length ∧ w.length ≤ 12) && (match w.cps[0]? with | some c => hasS ⟨#[c]⟩ lettersS | none => false)
theorem nameB_eq (w : Str) : nameB w = (headB w && w.cps.toList.all sgnB) := rfl
theorem sg_at {x : Str} {i : Nat} {p : PV} (h : (signs x)[i]? = some p) : ∃ c, x.cps.toList[i]? = some c ∧ p = .str ⟨#[c]⟩ := by
  unfold signs at h
  rw [List.getElem?_map] at h
  cases e : x.cps.toList[i]? with
  | none => rw [e] at h; cases h
  | some z => rw [e] at h; exact ⟨z, rfl, (Option.some.inj h).symm⟩
theorem sg_len {x : Str} : (signs x).length = x.cps.toList.length := by unfold signs; exact List.length_map _
theorem find_mem {rs : List Row} {x : Str} {r : Row} (h : rs.find? (fun r => decide (r.nm = x)) = some r) : x ∈ namesOf rs := by
  have h1 := List.mem_of_find?_eq_some h
  have h2 := List.find?_some h
  exact (of_decide_eq_true h2) ▸ List.mem_map_of_mem h1
theorem find_nin {rs : List Row} {x : Str} (h : rs.find? (fun r => decide (r.nm = x)) = none) : x ∉ namesOf rs := fun hm => by
  obtain ⟨r, hr, e⟩ := List.mem_map.mp hm
  exact List.find?_eq_none.mp h r hr (decide_eq_true e)
def sp_is_name (K : Kf) : PSpec := fun vs M Q _ => ∃ x : Str, vs = [.str x] ∧ x.length ≤ 1000 ∧ Q (.bl (nameB x)) M
theorem sp_is_name_len {K : Kf} {vs : List PV} {M : PHp} {Q : PVK} {E : PXK} (h : sp_is_name K vs M Q E) : vs.length = 1 := by
  obtain ⟨_, rfl, _⟩ := h; rfl

theorem ok_is_name {P : Program} {w : World} {K : Kf} {mg : Str → Option Value} {base : Heap} (h0 : Here K mg "is_name" s_is_name ["word"]) (T : Blt mg) (XC : Xc K mg) (Su : Sure P base)  : Callee P w K mg base 34 "is_name" ["word"] (sp_is_name K) := by
  refine ok_of h0 sc_is_name (fun vs M Q E h => sp_is_name_len h) (fun f cdv A outer s H E hr => ⟨_, (psscons (psifc (PW.pt (pwor (ptnot (ptchain opLe opLe pinT (pcallB (cLenK (K := K)) (by rfl) T.b_len (by decide +kernel) (pacons (pv 0) panil)) (pglobI (by rfl) T.c_LONGEST_NAME))) (pwor1 (ptcmp opNotInS (pixK (K := K) (pv 0) pinT) (pglobS (by rfl) T.c_LETTERS) rfl)))) (pssone (psret pbl)) pssnil)
      (psscons (psfor PassesOwn.never rfl (piseqK (K := K) (pv 0)) (pgname (i := 1) sc_is_name.nd) (pssone (psif (PW.pt (pwand (ptcmp opNotInS (pv 1) (pglobS (by rfl) T.c_LETTERS) rfl) (pwand1 (ptcmp opNotInS (pv 1) (pglobS (by rfl) T.c_DIGITS) rfl)))) (pssone (psret pbl)) pssnil)))
      (pssone (psret pbl)))), fun vs M Q Ep h => ?_⟩)
  obtain ⟨x, rfl, hl, k⟩ := h
  have hsz : x.length ≤ sizeLine := by rw [sizeLine_eq]; omega
  walk_at "go"
  refine ⟨fun b M' => M' = M ∧ (b = true → nameB x = false) ∧ (b = false → headB x = true), ?_, ?_⟩
  · walk_at "on"
    refine ⟨hsz, ?_⟩
    walk_at "on"
    refine br_dec (fun h1 => ?_) (fun h1 => ?_)
    · walk_at "on"
      refine br_ndec (c := ((x.length : Int) ≤ 12)) (fun h2 => ?_) (fun h2 => ?_)
      · refine ⟨_, .refl _, rfl, fun _ => ?_, fun q => by cases q⟩
        rw [nameB_eq, headB, decide_eq_false (by omega)]; rfl
      · obtain ⟨c, hc⟩ : ∃ c, x.cps[0]? = some c := by
          have : 0 < x.cps.size := by have : 1 ≤ x.cps.size := by exact_mod_cast h1
                                      omega
          exact ⟨_, Array.getElem?_eq_getElem this⟩
        have hca : atI x.cps.toList 0 = some c := atI_nat (xs := x.cps.toList) (j := 0) (by rw [Array.getElem?_toList]; exact hc)
        have hh : headB x = hasS ⟨#[c]⟩ lettersS := by
          rw [headB, hc, decide_eq_true (by omega), Bool.true_and]
        walk_at "on"
        refine ⟨hsz, c, hca, ?_⟩
        walk_at "on"
        refine ⟨_, .refl _, rfl, fun q => ?_, fun q => ?_⟩
        · rw [nameB_eq, hh]
          have q : hasS ⟨#[c]⟩ lettersS = false := by simpa using q
          rw [q]; rfl
        · rw [hh]; simpa using q
    · walk_at "on"
      refine ⟨_, .refl _, rfl, fun _ => ?_, fun q => by cases q⟩
      rw [nameB_eq, headB, decide_eq_false (by omega)]; rfl
  rintro b M' ⟨rfl, hb1, hb2⟩
  refine br_of (fun hb => ?_) (fun hb => ?_)
  · walk_at "on"
    rw [hb1 hb] at k
    exact ⟨_, .refl _, k⟩
  have hh := hb2 hb
  walk_at "on"
  refine ⟨fun i σ M1 => ∃ w1 : Option PV, σ = [some (.str x), w1] ∧ M1 = M' ∧ ∀ j c, j < i → x.cps.toList[j]? = some c → sgnB c = true, ⟨_, _, .refl _, .refl _, _, rfl, rfl, fun j c hj => absurd hj (by omega)⟩, ?_, ?_, ?_⟩
  · intros; trivial
  · rintro i z σ M1 hz ⟨w1, rfl, rfl, hj⟩
    obtain ⟨c, hc, rfl⟩ := sg_at hz
    have bad : sgnB c = false → nameB x = false := fun q => by
      rw [nameB_eq, hh, Bool.true_and, List.all_eq_false]
      exact ⟨c, List.mem_of_getElem? hc, by rw [q]; exact Bool.false_ne_true⟩
    have nx : sgnB c = true → ∀ j d, j < i + 1 → x.cps.toList[j]? = some d → sgnB d = true := fun q j d hj2 hd => by
      by_cases e : j = i
      · subst e; rw [hc] at hd; cases hd; exact q
      · exact hj j d (by omega) hd
    walk_at "on"
    refine br_of (fun h1 => ?_) (fun h1 => ?_)
    · have h1 : hasS ⟨#[c]⟩ lettersS = false := by simpa using h1
      walk_at "on"
      refine br_of (fun h2 => ?_) (fun h2 => ?_)
      · have h2 : hasS ⟨#[c]⟩ digitsS = false := by simpa using h2
        walk_at "on"
        rw [bad (by unfold sgnB; rw [h1, h2]; rfl)] at k
        exact ⟨_, .refl _, k⟩
      · have h2 : hasS ⟨#[c]⟩ digitsS = true := by simpa using h2
        walk_at "on"
        exact ⟨_, _, by walk_at "subs", .refl _, _, rfl, rfl, nx (by unfold sgnB; rw [h2, Bool.or_true])⟩
    · have h1 : hasS ⟨#[c]⟩ lettersS = true := by simpa using h1
      walk_at "on"
      exact ⟨_, _, by walk_at "subs", .refl _, _, rfl, rfl, nx (by unfold sgnB; rw [h1]; rfl)⟩
  · rintro σ M1 ⟨w1, rfl, rfl, hj⟩
    rw [sg_len] at hj
    have e : nameB x = true := by
      rw [nameB_eq, hh, Bool.true_and, List.all_eq_true]
      intro c hc
      obtain ⟨j, hj2⟩ := List.getElem?_of_mem hc
      exact hj j c (lt_of_get hj2) hj2
    rw [e] at k
    walk_at "on"
    exact ⟨_, .refl _, k⟩

def sp_is_new_name (K : Kf) : PSpec := fun vs M Q _ => ∃ (rs : List Row) (t : PV) (x : Str), vs = [.tup [rowsV rs, t], .str x] ∧ x.length ≤ 1000 ∧ Q (.bl (nameB x && decide (x ∉ namesOf rs))) M
theorem sp_is_new_name_len {K : Kf} {vs : List PV} {M : PHp} {Q : PVK} {E : PXK} (h : sp_is_new_name K vs M Q E) : vs.length = 2 := by
  obtain ⟨_, _, _, rfl, _⟩ := h; rfl

theorem ok_is_new_name {P : Program} {w : World} {K : Kf} {mg : Str → Option Value} {base : Heap} (h0 : Here K mg "is_new_name" s_is_new_name ["game", "name"]) (T : Blt mg) (XC : Xc K mg) (Su : Sure P base) (C_is_name : Callee P w K mg base 34 "is_name" ["word"] (sp_is_name K)) (C_row_of : Callee P w K mg base 34 "row_of" ["game", "name"] (sp_row_of K)) : Callee P w K mg base 35 "is_new_name" ["game", "name"] (sp_is_new_name K) := by
  refine ok_of h0 sc_is_new_name (fun vs M Q E h => sp_is_new_name_len h) (fun f cdv A outer s H E hr => ⟨_, (pssone (psret (pand (pcall C_is_name (by exact hr.mono (by first | decide | omega)) (pacons (pv 1) panil)) (pone (pcmp opIsN (pcall C_row_of (by exact hr.mono (by first | decide | omega)) (pacons (pv 0) (pacons (pv 1) panil))) pnon (nomark _)))))), fun vs M Q Ep h => ?_⟩)
  obtain ⟨rs, t, x, rfl, hl, k⟩ := h
  walk_at "go"
  refine ⟨x, rfl, hl, ?_⟩
  walk_at "on"
  cases hn : nameB x with
  | false =>
    rw [hn] at k
    walk_at "on"
    exact ⟨_, .refl _, k⟩
  | true =>
    rw [hn] at k
    walk_at "on"
    refine ⟨rs, t, x, rfl, fun r hr => ?_, fun hr => ?_⟩
    · rw [decide_eq_false (fun q => q (find_mem hr))] at k
      walk_at "on"
      exact ⟨_, .refl _, k⟩
    · rw [decide_eq_true (find_nin hr)] at k
      walk_at "on"
      exact ⟨_, .refl _, k⟩

def sp__law_is_name (K : Kf) : PSpec := fun vs M Q _ => ∃ x : Str, vs = [.str x] ∧ x.length ≤ 1000 ∧ Q (.bl (nameB x)) M
theorem sp__law_is_name_len {K : Kf} {vs : List PV} {M : PHp} {Q : PVK} {E : PXK} (h : sp__law_is_name K vs M Q E) : vs.length = 1 := by
  obtain ⟨_, rfl, _⟩ := h; rfl

theorem ok__law_is_name {P : Program} {w : World} {K : Kf} {mg : Str → Option Value} {base : Heap} (h0 : Here K mg "_law_is_name" s__law_is_name ["word"]) (T : Blt mg) (XC : Xc K mg) (Su : Sure P base)  : Callee P w K mg base 34 "_law_is_name" ["word"] (sp__law_is_name K) := by
  refine ok_of h0 sc__law_is_name (fun vs M Q E h => sp__law_is_name_len h) (fun f cdv A outer s H E hr => ⟨_, (psscons (psset 1 sc__law_is_name.nd pstr)
      (psscons (psifc (PW.pt (pwor (ptnot (ptchain opLe opLe pinT (pcallB (cLenK (K := K)) (by rfl) T.b_len (by decide +kernel) (pacons (pv 0) panil)) pinT)) (pwor1 (ptcmp opNotInS (pixK (K := K) (pv 0) pinT) (pv 1) rfl)))) (pssone (psret pbl)) pssnil)
      (pssone (psret (pcmp (opEqK (K := K) (by exact hr.units)) (pcallB (cLenK (K := K)) (by rfl) T.b_len (by decide +kernel) (pacons (plcF  rfl sc__law_is_name.nd (piseqK (K := K) (pv 0)) (blkOk_by (own := [("sign", 2)]) (N := ["word", "letters", "sign"]) (sc := defScope s__law_is_name) (by decide +kernel)) (tgName (by decide)) (fun _ _ _ _ _ => (pg_name (i := 2) sc__law_is_name.nd rfl (by first | exact Or.inl rfl | exact Or.inr rfl))) (fun _ _ _ _ _ => (ptsone (PW.pt (pwand (ptcmp opNotInS (pv 2) (pv 1) rfl) (pwand1 (ptcmp opNotInS (pv 2) pstr rfl)))))) (fun _ _ _ _ _ => (pv 2))) panil)) pinT (nomark _)))))), fun vs M Q Ep h => ?_⟩)
  obtain ⟨x, rfl, hl, k⟩ := h
  have hsz : x.length ≤ sizeLine := by rw [sizeLine_eq]; omega
  walk_at "go"
  refine ⟨fun b M' => M' = M ∧ (b = true → nameB x = false) ∧ (b = false → headB x = true), ?_, ?_⟩
  · walk_at "on"
    refine ⟨hsz, ?_⟩
    walk_at "on"
    refine br_dec (fun h1 => ?_) (fun h1 => ?_)
    · walk_at "on"
      refine br_ndec (c := ((x.length : Int) ≤ 12)) (fun h2 => ?_) (fun h2 => ?_)
      · refine ⟨_, .refl _, rfl, fun _ => ?_, fun q => by cases q⟩
        rw [nameB_eq, headB, decide_eq_false (by omega)]; rfl
      · obtain ⟨c, hc⟩ : ∃ c, x.cps[0]? = some c := by
          have : 0 < x.cps.size := by have : 1 ≤ x.cps.size := by exact_mod_cast h1
                                      omega
          exact ⟨_, Array.getElem?_eq_getElem this⟩
        have hca : atI x.cps.toList 0 = some c := atI_nat (xs := x.cps.toList) (j := 0) (by rw [Array.getElem?_toList]; exact hc)
        have hh : headB x = hasS ⟨#[c]⟩ lettersS := by
          rw [headB, hc, decide_eq_true (by omega), Bool.true_and]
        walk_at "on"
        refine ⟨hsz, c, hca, ?_⟩
        walk_at "on"
        refine ⟨_, .refl _, rfl, fun q => ?_, fun q => ?_⟩
        · rw [nameB_eq, hh]
          have q : hasS ⟨#[c]⟩ lettersS = false := by simpa using q
          rw [q]; rfl
        · rw [hh]; simpa using q
    · walk_at "on"
      refine ⟨_, .refl _, rfl, fun _ => ?_, fun q => by cases q⟩
      rw [nameB_eq, headB, decide_eq_false (by omega)]; rfl
  rintro b M' ⟨rfl, hb1, hb2⟩
  refine br_of (fun hb => ?_) (fun hb => ?_)
  · walk_at "on"
    rw [hb1 hb] at k
    exact ⟨_, .refl _, k⟩
  have hh := hb2 hb
  walk_at "on"
  refine ⟨fun i => !sgnB (x.cps.toList.getD i 0), fun i => .str ⟨#[x.cps.toList.getD i 0]⟩, by rw [sg_len, ← str_len]; omega, fun _ _ => trivial, fun i z M2 Q3 hz sb k3 => ?_, fun i z M2 Q3 hz hb sb k3 => ?_, fun Dl l hD hl2 => ?_⟩
  · obtain ⟨c, hc, rfl⟩ := sg_at hz
    simp only [getD_at hc] at k3
    refine ⟨_, rfl, ?_⟩
    unfold sgnB at k3
    walk_at "on"
    refine br_of (fun h1 => ?_) (fun h1 => ?_)
    · have h1 : hasS ⟨#[c]⟩ lettersS = false := by simpa using h1
      rw [h1, Bool.false_or] at k3
      walk_at "on"
      exact k3 _ (.refl _)
    · have h1 : hasS ⟨#[c]⟩ lettersS = true := by simpa using h1
      rw [h1, Bool.true_or] at k3
      exact k3 _ (.refl _)
  · obtain ⟨c, hc, rfl⟩ := sg_at hz
    simp only [getD_at hc] at k3
    refine ⟨_, rfl, ?_⟩
    walk_at "on"
    exact k3 _ (.refl _)
  rw [sg_len, flt_list x.cps.toList 0 (fun c => !sgnB c) (fun c => PV.str ⟨#[c]⟩)] at hl2
  subst hl2
  walk_at "on"
  refine ⟨M', .new hD, ?_⟩
  rw [nameB_eq, hh, Bool.true_and] at k
  rw [List.length_map]
  have e : decide ((((x.cps.toList.filter fun c => !sgnB c).length : Nat) : Int) = 0) = x.cps.toList.all sgnB := by
    rw [Bool.eq_iff_iff, decide_eq_true_iff, List.all_eq_true]
    constructor
    · intro q c hc
      have q2 : (x.cps.toList.filter fun c => !sgnB c) = [] := List.length_eq_zero_iff.mp (by omega)
      have := List.filter_eq_nil_iff.mp q2 c hc
      simpa using this
    · intro q
      have q2 : (x.cps.toList.filter fun c => !sgnB c) = [] := List.filter_eq_nil_iff.mpr fun c hc => by simp [q c hc]
      rw [q2]; rfl
  rw [e]; exact k

def sp__law_is_new (K : Kf) : PSpec := fun vs M Q _ => ∃ (rs : List Row) (x : Str), vs = [rowsV rs, .str x] ∧ x.length ≤ 1000 ∧ Q (.bl (nameB x && decide (x ∉ namesOf rs))) M
theorem sp__law_is_new_len {K : Kf} {vs : List PV} {M : PHp} {Q : PVK} {E : PXK} (h : sp__law_is_new K vs M Q E) : vs.length = 2 := by
  obtain ⟨_, _, rfl, _⟩ := h; rfl

theorem ok__law_is_new {P : Program} {w : World} {K : Kf} {mg : Str → Option Value} {base : Heap} (h0 : Here K mg "_law_is_new" s__law_is_new ["rows", "name"]) (T : Blt mg) (XC : Xc K mg) (Su : Sure P base) (C__law_is_name : Callee P w K mg base 34 "_law_is_name" ["word"] (sp__law_is_name K)) (C__law_row : Callee P w K mg base 34 "_law_row" ["rows", "name"] (sp__law_row K)) : Callee P w K mg base 35 "_law_is_new" ["rows", "name"] (sp__law_is_new K) := by
  refine ok_of h0 sc__law_is_new (fun vs M Q E h => sp__law_is_new_len h) (fun f cdv A outer s H E hr => ⟨_, (pssone (psret (pand (pcall C__law_is_name (by exact hr.mono (by first | decide | omega)) (pacons (pv 1) panil)) (pone (pcmp opIsN (pcall C__law_row (by exact hr.mono (by first | decide | omega)) (pacons (pv 0) (pacons (pv 1) panil))) pnon (nomark _)))))), fun vs M Q Ep h => ?_⟩)
  obtain ⟨rs, x, rfl, hl, k⟩ := h
  walk_at "go"
  refine ⟨x, rfl, hl, ?_⟩
  walk_at "on"
  cases hn : nameB x with
  | false =>
    rw [hn] at k
    walk_at "on"
    exact ⟨_, .refl _, k⟩
  | true =>
    rw [hn] at k
    walk_at "on"
    refine ⟨rs, x, rfl, fun r hr => ?_, fun hr => ?_⟩
    · rw [decide_eq_false (fun q => q (find_mem hr))] at k
      walk_at "on"
      exact ⟨_, .refl _, k⟩
    · rw [decide_eq_true (find_nin hr)] at k
      walk_at "on"
      exact ⟨_, .refl _, k⟩

/-- a drawn game: rows, outcomes, a tree -/
structure GameD (w : Nat) (rs : List Row) (us : List Str) (t : Tr) : Prop where
  sn : SortedN rs
  row : ∀ r ∈ rs, RowD r
  b : brd rs ≤ w
  un : us ≠ []
  u : ∀ x ∈ us, Nm x
  tr : TOk us rs t
abbrev many10 : List Int := [2, 3, 4, 5, 2, 3, 4, 5, 6, 1]
theorem many10_ok : ∀ x ∈ many10, 1 ≤ x ∧ x ≤ 6 := by decide
def sp__law_game (K : Kf) : PSpec := fun vs M Q _ => ∃ (a s : Addr) (ns : List Int) (m w : Nat) (nodes : Int), vs = [.ref a, .ref s, .int (m : Int), .int (w : Int), .int nodes] ∧ m ≤ 19 ∧ 1 ≤ w ∧ w ≤ 10 ^ 9 ∧ Env K M a s ns ∧
  ∀ rs us t M', rs.length ≤ m → GameD w rs us t → Env K M' a s ns → Keep s M M' → Q (gameV rs t) M'
theorem sp__law_game_len {K : Kf} {vs : List PV} {M : PHp} {Q : PVK} {E : PXK} (h : sp__law_game K vs M Q E) : vs.length = 5 := by
  obtain ⟨_, _, _, _, _, _, rfl, _⟩ := h; rfl

theorem ok__law_game {P : Program} {w : World} {K : Kf} {mg : Str → Option Value} {base : Heap} (h0 : Here K mg "_law_game" s__law_game ["script", "source", "many", "most", "nodes"]) (T : Blt mg) (XC : Xc K mg) (Su : Sure P base) (C__law_draw : Callee P w K mg base 34 "_law_draw" ["script", "source", "limit"] (sp__law_draw K)) (C__law_name : Callee P w K mg base 35 "_law_name" ["script", "source", "used"] (sp__law_name K)) (C__law_sets : Callee P w K mg base 36 "_law_sets" ["script", "source", "many", "most"] (sp__law_sets K)) (C__law_tree : Callee P w K mg base 55 "_law_tree" ["script", "source", "free", "outcomes", "room", "wish"] (sp__law_tree K 20)) : Callee P w K mg base 56 "_law_game" ["script", "source", "many", "most", "nodes"] (sp__law_game K) := by
  refine ok_of h0 sc__law_game (fun vs M Q E h => sp__law_game_len h) (fun f cdv A outer s H E hr => ⟨_, (psscons (psset 5 sc__law_game.nd (pcall C__law_sets (by exact hr.mono (by first | decide | omega)) (pacons (pv 0) (pacons (pv 1) (pacons (pv 2) (pacons (pv 3) panil))))))
      (psscons (psset 6 sc__law_game.nd (plst panil))
      (psscons (psfor PassesOwn.never rfl (pirng1 (by rfl) T.b_range (pacons (pixK (K := K) (plst (pacons pinT (pacons pinT (pacons pinT (pacons pinT (pacons pinT (pacons pinT (pacons pinT (pacons pinT (pacons pinT (pacons pinT panil))))))))))) (pcall C__law_draw (by exact hr.mono (by first | decide | omega)) (pacons (pv 0) (pacons (pv 1) (pacons pinT panil))))) panil)) (pgname (i := 7) sc__law_game.nd) (pssone (psexpr (pbmK (K := K) PySem.F.plainAttrs_list PySem.F.slot_list_append PySem.F.type_list_append mAppend (pv 6) (pacons (pcall C__law_name (by exact hr.mono (by first | decide | omega)) (pacons (pv 0) (pacons (pv 1) (pacons (pv 6) panil)))) panil)))))
      (psscons (psset 8 sc__law_game.nd pnon)
      (psscons (psfor PassesOwn.never rfl (piseqK (K := K) (pv 5)) (pgname (i := 9) sc__law_game.nd) (pssone (psifc (PW.pt (pwor (ptcmp opIsN (pv 8) pnon (nomark _)) (pwor (ptcmp (opEqK (K := K) (by exact hr.units)) (pcallB (cLenK (K := K)) (by rfl) T.b_len (by decide +kernel) (pacons (pixK (K := K) (pv 8) pinT) panil)) pinT (nomark _)) (pwor1 (ptcmp (opEqK (K := K) (by exact hr.units)) (pcall C__law_draw (by exact hr.mono (by first | decide | omega)) (pacons (pv 0) (pacons (pv 1) (pacons pinT panil)))) pinT (nomark _)))))) (pssone (psset 8 sc__law_game.nd (pv 9))) pssnil)))
      (pssone (psret (ptup (pacons (pv 5) (pacons (pcall C__law_tree (by exact hr.mono (by first | decide | omega)) (pacons (pv 0) (pacons (pv 1) (pacons (pcallTy (cListK (K := K)) (by rfl) T.b_list (by decide +kernel) (pacons (pv 5) panil)) (pacons (pv 6) (pacons (plst (pacons (pv 4) panil)) (pacons (pv 8) panil))))))) panil)))))))))), fun vs M Q Ep h => ?_⟩)
  obtain ⟨a, s, ns, m, w, nodes, rfl, hm, hw1, hw2, e, k⟩ := h
  have he := He.start e
  walk_at "go"
  refine ⟨a, s, ns, m, w, rfl, by omega, hw1, hw2, e, fun rs M1 hrl sn hok hb e1 k1 => ?_⟩
  have he := he.call e1 k1
  have rlen : (rs.map Row.pv).length = rs.length := List.length_map _
  walk_at "on"
  refine al he fun p hp he => ?_
  walk_at "on"
  refine al (he _) fun p2 hp2 he => ?_
  walk_at "on"
  refine dr (he _) (by decide) (by decide) fun d M2 h0 h1 he => ?_
  obtain ⟨c, cm, hc⟩ := int_mem (us := many10) h0 h1
  obtain ⟨c1, c2⟩ := many10_ok c cm
  walk_at "on"
  refine ⟨by omega, ?_⟩
  replace he := he.d0
  refine ⟨fun i σ M' => ∃ (us : List Str) (w7 : Option PV), σ = [some (.ref a), some (.ref s), none, none, some (.int nodes), some (rowsV rs), some (.ref p), w7, none, none] ∧ us.length = i ∧ (∀ x ∈ us, Nm x) ∧ He K [] a s ns M M' [(p, .lst (us.map PV.str))], ⟨_, _, by walk_at "subs", .refl _, [], _, rfl, rfl, by simp, he⟩, ?_, ?_, ?_⟩
  · intros; trivial
  · clear he
    rintro i x σ M3 hx ⟨us, w7, rfl, hui, hus, he⟩
    obtain ⟨hi, rfl⟩ := rng_get hx
    walk_at "on"
    refine ⟨a, s, p, ns, us, rfl, he.env, .inl (he.get 0 rfl), he.ne_s 0 rfl, by omega, fun x M4 nx nin e4 k4 => ?_⟩
    replace he := he.call e4 k4
    walk_at "on"
    refine ⟨_, he.get 0 rfl, by rw [List.length_map, sizeLine_eq]; omega, ?_⟩
    refine ⟨_, _, by walk_at "subs", .refl _, us ++ [x], _, rfl, by rw [List.length_append, hui]; rfl, fun z hz => ?_, by rw [List.map_append]; walk_at "he"⟩
    rcases List.mem_append.mp hz with h | h
    · exact hus z h
    · rw [List.mem_singleton.mp h]; exact nx
  · clear he
    rintro σ M3 ⟨us, w7, rfl, hui, hus, he⟩
    rw [rng_len] at hui
    have un : us ≠ [] := fun q => by rw [q] at hui; simp at hui; omega
    walk_at "on"
    refine ⟨fun i σ M' => ∃ (tp : Option Row) (w9 : Option PV), (i = 0 → tp = none) ∧ (∀ q, tp = some q → q ∈ rs) ∧ σ = [some (.ref a), some (.ref s), none, none, some (.int nodes), some (rowsV rs), some (.ref p), none, some (optR tp), w9] ∧ He K [] a s ns M M' [(p, .lst (us.map PV.str))], ⟨_, _, by walk_at "subs", .refl _, none, _, fun _ => rfl, fun q h => by (cases h), rfl, he⟩, ?_, ?_, ?_⟩
    · intros; trivial
    · clear he
      rintro i x σ M4 hx ⟨tp, w9, ht0, htp, rfl, he⟩
      obtain ⟨r, hr, rfl⟩ := row_at hx
      walk_at "on"
      refine ⟨fun b M' => He K [] a s ns M M' [(p, .lst (us.map PV.str))], ?_, ?_⟩
      · cases tp with
        | none => walk_at "on"; exact ⟨_, .refl _, he⟩
        | some q =>
          walk_at "on"
          refine br_dec (fun h => ?_) (fun h => ?_)
          · exact ⟨_, .refl _, he⟩
          walk_at "on"
          refine dr he (by decide) (by decide) fun d M5 h0 h1 he => ?_
          walk_at "on"
          exact ⟨_, .refl _, he⟩
      clear he
      intro b M5 he
      refine br_of (fun h => ?_) (fun h => ?_)
      · walk_at "on"
        exact ⟨_, _, by walk_at "subs", .refl _, some r, _, fun q => absurd q (by omega), fun q e => by (cases e; exact List.mem_of_getElem? hr), rfl, he⟩
      · walk_at "on"
        exact ⟨_, _, by walk_at "subs", .refl _, tp, _, fun q => absurd q (by omega), htp, rfl, he⟩
    · clear he
      rintro σ M4 ⟨tp, w9, ht0, htp, rfl, he⟩
      walk_at "on"
      refine al he fun f hf he => ?_
      walk_at "on"
      refine al (he _) fun r hr he => ?_
      have he := he (.lst [.int nodes])
      walk_at "on"
      refine ⟨a, s, f, p, r, ns, rs, us, nodes, tp, rfl, by omega, by omega, by omega, un, fun q hq => ⟨(hok q hq).l1, by have := (hok q hq).l2; omega⟩, he.env, he.get 1 rfl, he.get 2 rfl, he.get 0 rfl, he.ne_s 1 rfl, he.ne_s 2 rfl, he.ne_s 0 rfl, he.ne 1 0 (by decide) rfl rfl, he.ne 2 0 (by decide) rfl rfl, he.ne_a 0 rfl, htp, fun t M7 m7 ht e7 k7 hr7 => ?_⟩
      replace he := he.c20 e7 k7 hr7
      walk_at "on"
      exact ⟨_, .refl _, k rs us t _ hrl ⟨sn, hok, hb, un, hus, ht⟩ he.env he.keep⟩

/-! all places -/
abbrev iv (p : List Int) : PV := .tup (p.map PV.int)
mutual
def spotsT : Tr → List Int → List (List Int)
  | .leaf _, p => [p]
  | .node _ cs, p => p :: spotsTs cs 0 p
def spotsTs : List Tr → Nat → List Int → List (List Int)
  | [], _, _ => []
  | c :: r, k, p => spotsT c (p ++ [(k : Int)]) ++ spotsTs r (k + 1) p
end
mutual
def nodesT : Tr → List Int → List PV → List (List Int × Tr × List PV)
  | .leaf _, _, _ => []
  | .node n cs, p, s => (p, .node n cs, s) :: nodesTs n cs 0 p s
def nodesTs : Str → List Tr → Nat → List Int → List PV → List (List Int × Tr × List PV)
  | _, [], _, _, _ => []
  | n, c :: r, k, p, s => nodesT c (p ++ [(k : Int)]) (s ++ [.tup [.str n, .int k]]) ++ nodesTs n r (k + 1) p s
end
mutual
def szT : Tr → Nat
  | .leaf _ => 1
  | .node _ cs => 1 + szTs cs
def szTs : List Tr → Nat
  | [] => 0
  | c :: r => szT c + szTs r
end
theorem spotsT_node {n : Str} {cs : List Tr} {p : List Int} : spotsT (.node n cs) p = p :: spotsTs cs 0 p := by unfold spotsT; rfl
theorem spotsTs_nil {k : Nat} {p : List Int} : spotsTs [] k p = [] := by unfold spotsTs; rfl
theorem spotsTs_cons {c : Tr} {r : List Tr} {k : Nat} {p : List Int} : spotsTs (c :: r) k p = spotsT c (p ++ [(k : Int)]) ++ spotsTs r (k + 1) p := by conv => lhs; unfold spotsTs
theorem nodesT_node {n : Str} {cs : List Tr} {p : List Int} {s : List PV} : nodesT (.node n cs) p s = (p, .node n cs, s) :: nodesTs n cs 0 p s := by unfold nodesT; rfl
theorem nodesT_leaf {x : Str} {p : List Int} {s : List PV} : nodesT (.leaf x) p s = [] := by unfold nodesT; rfl
theorem nodesTs_nil {n : Str} {k : Nat} {p : List Int} {s : List PV} : nodesTs n [] k p s = [] := by unfold nodesTs; rfl
theorem nodesTs_cons {n : Str} {c : Tr} {r : List Tr} {k : Nat} {p : List Int} {s : List PV} : nodesTs n (c :: r) k p s = nodesT c (p ++ [(k : Int)]) (s ++ [.tup [.str n, .int k]]) ++ nodesTs n r (k + 1) p s := by conv => lhs; unfold nodesTs
theorem spotsTs_snoc {c : Tr} {p : List Int} : ∀ {a : List Tr} {k : Nat}, spotsTs (a ++ [c]) k p = spotsTs a k p ++ spotsT c (p ++ [((k + a.length : Nat) : Int)])
  | [], k => by rw [List.nil_append, spotsTs_cons, spotsTs_nil, spotsTs_nil]; simp
  | x :: a, k => by rw [List.cons_append, spotsTs_cons, spotsTs_cons, spotsTs_snoc (a := a), List.append_assoc, show k + 1 + a.length = k + (x :: a).length by rw [List.length_cons]; omega]
theorem nodesTs_snoc {n : Str} {c : Tr} {p : List Int} {s : List PV} : ∀ {a : List Tr} {k : Nat}, nodesTs n (a ++ [c]) k p s = nodesTs n a k p s ++ nodesT c (p ++ [((k + a.length : Nat) : Int)]) (s ++ [.tup [.str n, .int ((k + a.length : Nat) : Int)]])
  | [], k => by rw [List.nil_append, nodesTs_cons, nodesTs_nil, nodesTs_nil]; simp
  | x :: a, k => by rw [List.cons_append, nodesTs_cons, nodesTs_cons, nodesTs_snoc (a := a), List.append_assoc, show k + 1 + a.length = k + (x :: a).length by rw [List.length_cons]; omega]
mutual
theorem spots_len : ∀ {t : Tr} {p : List Int}, (spotsT t p).length = szT t
  | .leaf x, p => by unfold spotsT szT; rfl
  | .node n cs, p => by unfold szT; rw [spotsT_node, List.length_cons, spots_lens]; omega
theorem spots_lens : ∀ {cs : List Tr} {k : Nat} {p : List Int}, (spotsTs cs k p).length = szTs cs
  | [], k, p => by unfold szTs; rw [spotsTs_nil]; rfl
  | c :: r, k, p => by unfold szTs; rw [spotsTs_cons, List.length_append, spots_len, spots_lens]
end
mutual
theorem nodes_len : ∀ {t : Tr} {p : List Int} {s : List PV}, (nodesT t p s).length ≤ szT t
  | .leaf x, p, s => by rw [nodesT_leaf]; exact Nat.zero_le _
  | .node n cs, p, s => by unfold szT; rw [nodesT_node, List.length_cons]; have := nodes_lens (n := n) (cs := cs) (k := 0) (p := p) (s := s); omega
theorem nodes_lens : ∀ {n : Str} {cs : List Tr} {k : Nat} {p : List Int} {s : List PV}, (nodesTs n cs k p s).length ≤ szTs cs
  | n, [], k, p, s => by rw [nodesTs_nil]; exact Nat.zero_le _
  | n, c :: r, k, p, s => by
    unfold szTs; rw [nodesTs_cons, List.length_append]
    have := nodes_len (t := c) (p := p ++ [(k : Int)]) (s := s ++ [.tup [.str n, .int k]])
    have := nodes_lens (n := n) (cs := r) (k := k + 1) (p := p) (s := s)
    omega
end
mutual
theorem nodes_nm : ∀ {t : Tr} {p : List Int} {s : List PV}, (nodesT t p s).flatMap (fun e => match e.2.1 with | .leaf _ => [] | .node n _ => [n]) = nmT t
  | .leaf x, p, s => by rw [nodesT_leaf]; unfold nmT; rfl
  | .node n cs, p, s => by unfold nmT; rw [nodesT_node, List.flatMap_cons, nodes_nms]; rfl
theorem nodes_nms : ∀ {n : Str} {cs : List Tr} {k : Nat} {p : List Int} {s : List PV}, (nodesTs n cs k p s).flatMap (fun e => match e.2.1 with | .leaf _ => [] | .node n _ => [n]) = nmTs cs
  | n, [], k, p, s => by rw [nodesTs_nil]; unfold nmTs; rfl
  | n, c :: r, k, p, s => by unfold nmTs; rw [nodesTs_cons, List.flatMap_append, nodes_nm, nodes_nms]
end
mutual
theorem nodes_at : ∀ {t : Tr} {p : List Int} {s : List PV}, ∀ e ∈ nodesT t p s, ∃ q n cs, e.1 = p ++ q ∧ trAt q t = some (.node n cs) ∧ e.2.1 = .node n cs
  | .leaf x, p, s, e, h => by rw [nodesT_leaf] at h; cases h
  | .node n cs, p, s, e, h => by
    rw [nodesT_node] at h
    rcases List.mem_cons.mp h with rfl | h
    · exact ⟨[], n, cs, (List.append_nil _).symm, rfl, rfl⟩
    · obtain ⟨j, c, q, m, ds, h1, h2, h3, h4⟩ := nodes_ats e h
      exact ⟨(((0 + j : Nat) : Int)) :: q, m, ds, by rw [h2], by rw [trAt_node (by omega) (by rw [Int.toNat_natCast, Nat.zero_add]; exact h1)]; exact h3, h4⟩
theorem nodes_ats : ∀ {n : Str} {cs : List Tr} {k : Nat} {p : List Int} {s : List PV}, ∀ e ∈ nodesTs n cs k p s, ∃ (j : Nat) (c : Tr) (q : List Int) (m : Str) (ds : List Tr), cs[j]? = some c ∧ e.1 = p ++ (((k + j : Nat) : Int)) :: q ∧ trAt q c = some (.node m ds) ∧ e.2.1 = .node m ds
  | n, [], k, p, s, e, h => by rw [nodesTs_nil] at h; cases h
  | n, c :: r, k, p, s, e, h => by
    rw [nodesTs_cons] at h
    rcases List.mem_append.mp h with h | h
    · obtain ⟨q, m, ds, h1, h2, h3⟩ := nodes_at e h
      exact ⟨0, c, q, m, ds, rfl, by rw [h1, List.append_assoc]; rfl, h2, h3⟩
    · obtain ⟨j, d, q, m, ds, h1, h2, h3, h4⟩ := nodes_ats e h
      exact ⟨j + 1, d, q, m, ds, h1, by rw [h2, show k + 1 + j = k + (j + 1) by omega], h3, h4⟩
end
mutual
theorem spots_at : ∀ {t : Tr} {p : List Int}, ∀ e ∈ spotsT t p, ∃ q u, e = p ++ q ∧ trAt q t = some u
  | .leaf x, p, e, h => by unfold spotsT at h; rw [List.mem_singleton.mp h]; exact ⟨[], _, (List.append_nil _).symm, rfl⟩
  | .node n cs, p, e, h => by
    rw [spotsT_node] at h
    rcases List.mem_cons.mp h with rfl | h
    · exact ⟨[], _, (List.append_nil _).symm, rfl⟩
    · obtain ⟨j, c, q, u, h1, h2, h3⟩ := spots_ats e h
      exact ⟨(((0 + j : Nat) : Int)) :: q, u, by rw [h2], by rw [trAt_node (by omega) (by rw [Int.toNat_natCast, Nat.zero_add]; exact h1)]; exact h3⟩
theorem spots_ats : ∀ {cs : List Tr} {k : Nat} {p : List Int}, ∀ e ∈ spotsTs cs k p, ∃ (j : Nat) (c : Tr) (q : List Int) (u : Tr), cs[j]? = some c ∧ e = p ++ (((k + j : Nat) : Int)) :: q ∧ trAt q c = some u
  | [], k, p, e, h => by rw [spotsTs_nil] at h; cases h
  | c :: r, k, p, e, h => by
    rw [spotsTs_cons] at h
    rcases List.mem_append.mp h with h | h
    · obtain ⟨q, u, h1, h2⟩ := spots_at e h
      exact ⟨0, c, q, u, rfl, by rw [h1, List.append_assoc]; rfl, h2⟩
    · obtain ⟨j, d, q, u, h1, h2, h3⟩ := spots_ats e h
      exact ⟨j + 1, d, q, u, h1, by rw [h2, show k + 1 + j = k + (j + 1) by omega], h3⟩
end
theorem spotsTs_mem {p : List Int} {e : List Int} : ∀ {cs : List Tr} {k j : Nat} {c : Tr}, cs[j]? = some c → e ∈ spotsT c (p ++ [((k + j : Nat) : Int)]) → e ∈ spotsTs cs k p
  | [], k, j, c, h, _ => by simp at h
  | d :: r, k, 0, c, h, h2 => by
    simp at h; subst h
    rw [spotsTs_cons]
    exact List.mem_append_left _ h2
  | d :: r, k, j + 1, c, h, h2 => by
    rw [spotsTs_cons]
    refine List.mem_append_right _ (spotsTs_mem (k := k + 1) (j := j) (by simpa using h) ?_)
    rw [show k + 1 + j = k + (j + 1) by omega]; exact h2
/-- there is an end beneath -/
theorem TOk.leafy {us : List Str} {rs : List Row} {t : Tr} (h : TOk us rs t) : (∀ r ∈ rs, 1 ≤ r.ws.length) → ∀ p, ∃ q x, trAt q t = some (.leaf x) ∧ p ++ q ∈ spotsT t p := by
  induction h with
  | @leaf rs x _ => exact fun _ p => ⟨[], x, rfl, by unfold spotsT; rw [List.append_nil]; exact List.mem_singleton.mpr rfl⟩
  | @node rs r cs hr hl hc ih =>
    intro l1 p
    obtain ⟨c, hc0⟩ : ∃ c, cs[0]? = some c := ⟨cs[0]'(by have := l1 r hr; omega), List.getElem?_eq_getElem _⟩
    obtain ⟨q, x, h1, h2⟩ := ih c (List.mem_of_getElem? hc0) (fun q hq => l1 q (offN_sub hq)) (p ++ [((0 + 0 : Nat) : Int)])
    refine ⟨((0 + 0 : Nat) : Int) :: q, x, by rw [trAt_node (by decide) (c := c) hc0]; exact h1, ?_⟩
    rw [spotsT_node]
    rw [List.append_assoc] at h2
    exact List.mem_cons_of_mem _ (spotsTs_mem hc0 h2)
def bnd : Nat → Nat
  | 0 => 1
  | k + 1 => 1 + 4 * bnd k
theorem szTs_le {m : Nat} : ∀ {cs : List Tr}, (∀ c ∈ cs, szT c ≤ m) → szTs cs ≤ cs.length * m
  | [], _ => by unfold szTs; exact Nat.zero_le _
  | c :: r, h => by
    unfold szTs
    have h1 := h c List.mem_cons_self
    have h2 := szTs_le (cs := r) fun d hd => h d (List.mem_cons_of_mem _ hd)
    rw [List.length_cons, Nat.succ_mul]; omega
theorem bnd_pos : ∀ {k : Nat}, 1 ≤ bnd k
  | 0 => Nat.le_refl _
  | k + 1 => by unfold bnd; omega
theorem TOk.size {us : List Str} : ∀ {k : Nat} {rs : List Row} {t : Tr}, TOk us rs t → (∀ r ∈ rs, r.ws.length ≤ 4) → rs.length ≤ k → szT t ≤ bnd k
  | k, rs, _, .leaf _, _, _ => by unfold szT; exact bnd_pos
  | 0, rs, _, .node hr _ _, _, h => by have := List.length_pos_of_mem hr; omega
  | k + 1, rs, _, .node (r := r) (cs := cs) hr hl hc, h2, h => by
    have less := offN_len hr
    have h3 := szTs_le (m := bnd k) (cs := cs) fun c hcm => TOk.size (hc c hcm) (fun q hq => h2 q (offN_sub hq)) (by omega)
    have h4 := h2 r hr
    unfold szT bnd
    have : cs.length * bnd k ≤ 4 * bnd k := Nat.mul_le_mul_right _ (by omega)
    omega
theorem szTs_take {cs : List Tr} : ∀ {i : Nat}, szTs (cs.take i) ≤ szTs cs := by
  induction cs with
  | nil => intro i; simp
  | cons c r ih =>
    intro i
    cases i with
    | zero => rw [List.take_zero]; unfold szTs; omega
    | succ i => rw [List.take_succ_cons]; unfold szTs; have := ih (i := i); omega
theorem szTs_get {cs : List Tr} : ∀ {i : Nat} {c : Tr}, cs[i]? = some c → szTs (cs.take i) + szT c ≤ szTs cs := by
  induction cs with
  | nil => intro i c h; simp at h
  | cons d r ih =>
    intro i c h
    cases i with
    | zero => simp at h; subst h; rw [List.take_zero]; unfold szTs; unfold szTs; omega
    | succ i => rw [List.take_succ_cons]; unfold szTs; have := ih (i := i) (c := c) (by simpa using h); omega
abbrev ndV (e : List Int × Tr × List PV) : PV := .tup [iv e.1, e.2.1.pv, .tup e.2.2]

/-! steps on rows -/
inductive RStep where
  | add (x : Str) (o : Int) (ws : List Int)
  | drop (x : Str)
  | ren (x y : Str)
  | ord (x : Str) (ps : List Int)
def RStep.pv : RStep → PV
  | .add x o ws => .tup [.str "add", .str x, .int o, iv ws]
  | .drop x => .tup [.str "drop", .str x]
  | .ren x y => .tup [.str "rename", .str x, .str y]
  | .ord x ps => .tup [.str "order", .str x, iv ps]
mutual
def relT (x y : Str) : Tr → Tr
  | .leaf z => .leaf z
  | .node n cs => .node (if n = x then y else n) (relTs x y cs)
def relTs (x y : Str) : List Tr → List Tr
  | [] => []
  | c :: r => relT x y c :: relTs x y r
end
mutual
def ordT (x : Str) (ps : List Nat) : Tr → Tr
  | .leaf z => .leaf z
  | .node n cs => .node n (if n = x then ps.map (fun m => (ordTs x ps cs).getD m (.leaf x)) else ordTs x ps cs)
def ordTs (x : Str) (ps : List Nat) : List Tr → List Tr
  | [] => []
  | c :: r => ordT x ps c :: ordTs x ps r
end
theorem relTs_map {x y : Str} : ∀ cs : List Tr, relTs x y cs = cs.map (relT x y)
  | [] => by unfold relTs; rfl
  | c :: r => by unfold relTs; rw [relTs_map r]; rfl
theorem ordTs_map {x : Str} {ps : List Nat} : ∀ cs : List Tr, ordTs x ps cs = cs.map (ordT x ps)
  | [] => by unfold ordTs; rfl
  | c :: r => by unfold ordTs; rw [ordTs_map r]; rfl
theorem relT_node {x y n : Str} {cs : List Tr} : relT x y (.node n cs) = .node (if n = x then y else n) (cs.map (relT x y)) := by
  conv => lhs; unfold relT
  rw [relTs_map]
theorem relT_leaf {x y z : Str} : relT x y (.leaf z) = .leaf z := by unfold relT; rfl
theorem ordT_node {x n : Str} {ps : List Nat} {cs : List Tr} : ordT x ps (.node n cs) = .node n (if n = x then ps.map (fun m => (cs.map (ordT x ps)).getD m (.leaf x)) else cs.map (ordT x ps)) := by
  conv => lhs; unfold ordT
  rw [ordTs_map]
theorem ordT_leaf {x z : Str} {ps : List Nat} : ordT x ps (.leaf z) = .leaf z := by unfold ordT; rfl
/-- not too deep, not too broad -/
inductive BT : Nat → Tr → Prop
  | leaf {n x} : BT (n + 1) (.leaf x)
  | node {n x cs} : cs.length ≤ 1000 → (∀ c ∈ cs, BT n c) → BT (n + 1) (.node x cs)
/-- the nodes of x have k children -/
inductive AT (x : Str) (k : Nat) : Tr → Prop
  | leaf {z} : AT x k (.leaf z)
  | node {n cs} : (n = x → cs.length = k) → (∀ c ∈ cs, AT x k c) → AT x k (.node n cs)
theorem TOk.bt {us : List Str} : ∀ {n : Nat} {rs : List Row} {t : Tr}, TOk us rs t → (∀ r ∈ rs, r.ws.length ≤ 1000) → rs.length < n → BT n t
  | 0, rs, _, _, _, h => absurd h (by omega)
  | n + 1, rs, _, .leaf _, _, _ => .leaf
  | n + 1, rs, _, .node (r := r) (cs := cs) hr hl hc, h2, h => .node (by rw [hl]; exact h2 _ hr) fun c hcm => TOk.bt (hc c hcm) (fun q hq => h2 q (offN_sub hq)) (by have := offN_len hr; omega)
theorem TOk.at_ {us : List Str} {x : Str} {r : Row} {rs : List Row} {t : Tr} (h : TOk us rs t) : (namesOf rs).Nodup → (∀ q ∈ rs, q.nm = x → q.ws.length = r.ws.length) → AT x r.ws.length t := by
  induction h with
  | leaf _ => exact fun _ _ => .leaf
  | node hr hl hc ih => exact fun nd hq => .node (fun e => by rw [hl]; exact hq _ hr e) fun c hcm => ih c hcm (nd.sublist (List.filter_sublist.map _)) fun q hq2 => hq q (offN_sub hq2)
theorem BT.rel {x y : Str} {n : Nat} {t : Tr} (h : BT n t) : BT n (relT x y t) := by
  induction h with
  | leaf => rw [relT_leaf]; exact .leaf
  | node hl hc ih =>
    rw [relT_node]
    refine .node (by rw [List.length_map]; exact hl) fun c hc2 => ?_
    obtain ⟨d, hd, rfl⟩ := List.mem_map.mp hc2
    exact ih d hd
theorem AT.kid {x n : Str} {k : Nat} {cs : List Tr} (h : AT x k (.node n cs)) : (n = x → cs.length = k) ∧ ∀ c ∈ cs, AT x k c := by
  cases h with
  | node h1 h2 => exact ⟨h1, h2⟩
theorem ord_get {x : Str} {ps : List Nat} {cs : List Tr} {d : Tr} (hps : ∀ m ∈ ps, m < cs.length) (h : d ∈ ps.map (fun m => (cs.map (ordT x ps)).getD m (.leaf x))) : ∃ c ∈ cs, d = ordT x ps c := by
  obtain ⟨m, hm, rfl⟩ := List.mem_map.mp h
  have hl := hps m hm
  exact ⟨cs[m], List.getElem_mem hl, getD_at (by rw [List.getElem?_map, List.getElem?_eq_getElem hl]; rfl)⟩
theorem BT.ord {x : Str} {ps : List Nat} {k n : Nat} {t : Tr} (hp : ps.length = k) (hk : k ≤ 1000) (hps : ∀ m ∈ ps, m < k) (h : BT n t) : AT x k t → BT n (ordT x ps t) := by
  induction h with
  | leaf => intro _; rw [ordT_leaf]; exact .leaf
  | @node n m cs hl hc ih =>
    intro ha
    obtain ⟨a1, a2⟩ := ha.kid
    rw [ordT_node]
    split
    · rename_i e
      refine .node (by rw [List.length_map]; omega) fun d hd => ?_
      obtain ⟨c, hcm, rfl⟩ := ord_get (fun m hm => by rw [a1 e]; exact hps m hm) hd
      exact ih c hcm (a2 c hcm)
    · refine .node (by rw [List.length_map]; exact hl) fun d hd => ?_
      obtain ⟨c, hcm, rfl⟩ := List.mem_map.mp hd
      exact ih c hcm (a2 c hcm)
theorem AT.ord {x : Str} {ps : List Nat} {k : Nat} {t : Tr} (hp : ps.length = k) (hps : ∀ m ∈ ps, m < k) (h : AT x k t) : AT x k (ordT x ps t) := by
  induction h with
  | leaf => rw [ordT_leaf]; exact .leaf
  | @node n cs a1 a2 ih =>
    rw [ordT_node]
    refine .node (fun e => by rw [if_pos e, List.length_map]; exact hp) fun d hd => ?_
    split at hd
    · rename_i e
      obtain ⟨c, hcm, rfl⟩ := ord_get (fun m hm => by rw [a1 e]; exact hps m hm) hd
      exact ih c hcm
    · obtain ⟨c, hcm, rfl⟩ := List.mem_map.mp hd
      exact ih c hcm
mutual
theorem relT_back {x y : Str} : ∀ {t : Tr}, y ∉ nmT t → relT y x (relT x y t) = t
  | .leaf z, _ => by rw [relT_leaf, relT_leaf]
  | .node n cs, h => by
    have hn : n ≠ y := fun e => h (nmT_node.mpr (.inl e.symm))
    rw [relT_node, relT_node, List.map_map, ← List.map_map, ← relTs_map, ← relTs_map, relTs_back fun q => h (by unfold nmT; exact List.mem_cons_of_mem _ q)]
    congr 1
    by_cases e : n = x
    · rw [if_pos e, if_pos rfl, e]
    · rw [if_neg e, if_neg hn]
theorem relTs_back {x y : Str} : ∀ {cs : List Tr}, y ∉ nmTs cs → relTs y x (relTs x y cs) = cs
  | [], _ => by unfold relTs; unfold relTs; rfl
  | c :: r, h => by
    unfold nmTs at h
    rw [List.mem_append, not_or] at h
    rw [relTs_map, relTs_map, List.map_cons, List.map_cons, relT_back h.1, ← relTs_map, ← relTs_map, relTs_back h.2]
end
theorem ord_back {x : Str} {ps qs : List Nat} {k : Nat} (hl : ps.length = k) (hq : qs.length = k) (hps : ∀ m ∈ ps, m < k) (hqs : ∀ m ∈ qs, m < k) (inv : ∀ i (h : i < k), ps.getD (qs.getD i 0) 0 = i) {t : Tr} (h : AT x k t) : ordT x qs (ordT x ps t) = t := by
  induction h with
  | leaf => rw [ordT_leaf, ordT_leaf]
  | @node n cs a1 a2 ih =>
    have ec : (cs.map (ordT x ps)).map (ordT x qs) = cs := by
      rw [List.map_map]
      conv => rhs; rw [← List.map_id cs]
      exact List.map_congr_left fun c hc => ih c hc
    rw [ordT_node, ordT_node]
    congr 1
    by_cases e : n = x
    · rw [if_pos e, if_pos e]
      have hk := a1 e
      refine List.ext_getElem? fun i => ?_
      by_cases hi : i < k
      · obtain ⟨m, hm⟩ : ∃ m, qs[i]? = some m := ⟨_, List.getElem?_eq_getElem (by omega)⟩
        have hmk := hqs m (List.mem_of_getElem? hm)
        obtain ⟨j, hj⟩ : ∃ j, ps[m]? = some j := ⟨_, List.getElem?_eq_getElem (by omega)⟩
        have hij : j = i := by
          have := inv i hi
          rwa [getD_at hm, getD_at hj] at this
        subst hij
        obtain ⟨c, hc⟩ : ∃ c, cs[j]? = some c := ⟨_, List.getElem?_eq_getElem (by omega)⟩
        rw [List.getElem?_map, hm, Option.map_some, hc]
        have h1 : (ps.map fun m => (cs.map (ordT x ps)).getD m (.leaf x))[m]? = some (ordT x ps c) := by
          rw [List.getElem?_map, hj, Option.map_some, getD_at (by rw [List.getElem?_map, hc]; rfl)]
        rw [getD_at (by rw [List.getElem?_map, h1]; rfl), ih _ (List.mem_of_getElem? hc)]
      · rw [List.getElem?_eq_none (by rw [List.length_map]; omega), List.getElem?_eq_none (by omega)]
    · rw [if_neg e, if_neg e, ec]

def sp__law_nodes (K : Kf) (n : Nat) : PSpec := fun vs M Q _ => ∃ (t : Tr) (p : List Int) (s : List PV), vs = [t.pv, iv p, .tup s] ∧ BT n t ∧ szT t ≤ 100000 ∧ n ≤ 20 ∧ p.length + n ≤ 1000 ∧ s.length + n ≤ 1000 ∧
  ∀ l M', M l = none → Sub M M' → M' l = some (.lst ((nodesT t p s).map ndV)) → Q (.ref l) M'
theorem sp__law_nodes_len {K : Kf} {n : Nat} {vs : List PV} {M : PHp} {Q : PVK} {E : PXK} (h : sp__law_nodes K n vs M Q E) : vs.length = 3 := by
  obtain ⟨_, _, _, rfl, _⟩ := h; rfl
theorem sp__law_nodes_zero {K : Kf} {vs : List PV} {M : PHp} {Q : PVK} {E : PXK} (h : sp__law_nodes K 0 vs M Q E) : False := by
  obtain ⟨_, _, _, rfl, h, _⟩ := h; cases h
theorem szTs_mem {cs : List Tr} {c : Tr} (h : c ∈ cs) : szT c ≤ szTs cs := by
  obtain ⟨i, hi⟩ := List.getElem?_of_mem h
  have := szTs_get hi; omega

theorem ok__law_nodes {P : Program} {w : World} {K : Kf} {mg : Str → Option Value} {base : Heap} (h0 : Here K mg "_law_nodes" s__law_nodes ["tree", "path", "pairs"]) (T : Blt mg) (XC : Xc K mg) (Su : Sure P base)  : ∀ n : Nat, Callee P w K mg base (34 + n) "_law_nodes" ["tree", "path", "pairs"] (sp__law_nodes K n)
  | 0 => (Callee.never (k := 33) h0 sc__law_nodes).imp fun _ _ _ _ h => (sp__law_nodes_zero h).elim
  | n + 1 => by
    have C__law_nodes := ok__law_nodes (P := P) (w := w) (base := base) h0 T XC Su  n
    refine ok_of (k := 34 + n) h0 sc__law_nodes (fun vs M Q E h => sp__law_nodes_len h) (fun f cdv A outer s H E hr => ⟨_, (psscons (psif (ptval (pcallB (cIsiK (K := K)) (by rfl) T.b_isinstance (by decide +kernel) (pacons (pv 0) (pacons (pbltn (p := .ty "str") (v := .ty "str") (by rfl) T.b_str (by decide +kernel) rfl (fun _ => .ty _)) panil)))) (pssone (psret (plst panil))) pssnil)
      (psscons (psset 3 sc__law_nodes.nd (plst (pacons (ptup (pacons (pv 1) (pacons (pv 0) (pacons (pv 2) panil)))) panil)))
      (psscons (psfor PassesOwn.never rfl (pirng1 (by rfl) T.b_range (pacons (pcallB (cLenK (K := K)) (by rfl) T.b_len (by decide +kernel) (pacons (pixK (K := K) (pv 0) pinT) panil)) panil)) (pgname (i := 4) sc__law_nodes.nd) (pssone (psset 3 sc__law_nodes.nd (pop opAdd (pv 3) (pcall C__law_nodes (by exact hr.mono (by first | decide | omega)) (pacons (pixK (K := K) (pixK (K := K) (pv 0) pinT) (pv 4)) (pacons (pop opAdd (pv 1) (ptup (pacons (pv 4) panil))) (pacons (pop opAdd (pv 2) (ptup (pacons (ptup (pacons (pixK (K := K) (pv 0) pinT) (pacons (pv 4) panil))) panil))) panil))))))))
      (pssone (psret (pv 3)))))), fun vs M Q Ep h => ?_⟩)
    obtain ⟨t, p, s, rfl, hb, sz, hn9, hp, hs, k⟩ := h
    have h0 : Hd [] M M [] := .start
    cases hb with
    | leaf =>
      walk_at "go"
      intro l hl
      exact ⟨_, .refl _, k l _ hl (.new hl) (by rw [nodesT_leaf]; exact updM_same)⟩
    | @node _ n' cs hl hk =>
      have szs : szTs cs ≤ 99999 := by unfold szT at sz; omega
      have pl : (Tr.pvs cs).length = cs.length := pvs_len
      walk_at "go"
      refine ald h0 fun l hl2 h0 => ?_
      walk_at "on"
      refine ⟨by omega, ?_⟩
      refine ⟨fun i σ M1 => ∃ (l' : Addr) (w4 : Option PV), σ = [some (Tr.node n' cs).pv, some (iv p), some (.tup s), some (.ref l'), w4] ∧ Hd [] M M1 [(l', .lst (((p, .node n' cs, s) :: nodesTs n' (cs.take i) 0 p s).map ndV))], ⟨_, _, .refl _, .refl _, l, _, rfl, by rw [List.take_zero, nodesTs_nil]; exact h0 _⟩, ?_, ?_, ?_⟩
      · intros; trivial
      · clear h0
        rintro i x σ M1 hx ⟨l', w4, rfl, h0⟩
        obtain ⟨hi, rfl⟩ := rng_get hx
        rw [pl, Int.toNat_natCast] at hi
        rw [show (0 : Int) + (i : Int) = (i : Int) by omega]
        obtain ⟨c, hc, hci⟩ := kid_at (cs := cs) (m := (i : Int)) (by omega) (by omega)
        rw [Int.toNat_natCast] at hc
        have sz2 := szTs_get hc
        have nl := nodes_lens (n := n') (cs := cs.take i) (k := 0) (p := p) (s := s)
        have nl2 := nodes_len (t := c) (p := p ++ [((0 + (cs.take i).length : Nat) : Int)]) (s := s ++ [.tup [.str n', .int ((0 + (cs.take i).length : Nat) : Int)]])
        have e1 : 0 + (cs.take i).length = i := by rw [List.length_take]; omega
        walk_at "on"
        refine ⟨by rw [List.length_map, List.length_singleton, sizeLine_eq]; omega, ?_⟩
        walk_at "on"
        refine ⟨by rw [List.length_singleton, sizeLine_eq]; omega, ?_⟩
        walk_at "on"
        refine ⟨c, p ++ [(i : Int)], s ++ [.tup [.str n', .int i]], by rw [iv, List.map_append]; rfl, hk c (List.mem_of_getElem? hc), by have := szTs_mem (List.mem_of_getElem? hc); omega, by omega, by rw [List.length_append, List.length_singleton]; omega, by rw [List.length_append, List.length_singleton]; omega, fun l2 M2 hl2 sb2 hM2 => ?_⟩
        walk_at "on"
        rw [e1] at nl2
        refine ⟨_, _, sb2 _ _ (h0.get 0 rfl), hM2, by rw [List.length_map, List.length_map, List.length_cons, sizeLine_eq]; omega, fun p3 hp3 => ?_⟩
        refine ⟨_, _, by walk_at "subs", .refl _, p3, _, rfl, ?_⟩
        have h1 := (h0.step sb2).new (o := .lst (((p, Tr.node n' cs, s) :: nodesTs n' (cs.take i) 0 p s).map ndV ++ (nodesT c (p ++ [(i : Int)]) (s ++ [.tup [.str n', .int i]])).map ndV)) hp3
        rw [take_succ' hc, nodesTs_snoc, e1, ← List.cons_append, List.map_append]
        exact h1.less (by simp)
      · clear h0
        rintro σ M1 ⟨l', w4, rfl, h0⟩
        rw [rng_len, pl, Int.toNat_natCast, List.take_of_length_le (Nat.le_refl _)] at h0
        walk_at "on"
        refine ⟨_, .refl _, k l' _ ?_ h0.sub ?_⟩
        · rcases h0.fr _ List.mem_cons_self with q | q
          · exact q
          · cases q
        · rw [nodesT_node]; exact h0.get 0 rfl
  
def bE (x : Str) (e : List Int × Tr × List PV) : Bool := match e.2.1 with
  | .leaf _ => false
  | .node n _ => decide (n = x)
abbrev nd0 : List Int × Tr × List PV := ([], .leaf ⟨#[]⟩, [])
theorem bE_nm {t : Tr} {p : List Int} {s : List PV} {x : Str} : 0 < ((nodesT t p s).filter (bE x)).length ↔ x ∈ nmT t := by
  rw [← nodes_nm (t := t) (p := p) (s := s), List.mem_flatMap, List.length_pos_iff_exists_mem]
  constructor
  · rintro ⟨e, he⟩
    obtain ⟨h1, h2⟩ := List.mem_filter.mp he
    refine ⟨e, h1, ?_⟩
    unfold bE at h2
    cases q : e.2.1 with
    | leaf y => rw [q] at h2; cases h2
    | node n cs => rw [q] at h2; rw [of_decide_eq_true h2]; exact List.mem_singleton.mpr rfl
  · rintro ⟨e, h1, h2⟩
    refine ⟨e, List.mem_filter.mpr ⟨h1, ?_⟩⟩
    unfold bE
    cases q : e.2.1 with
    | leaf y => rw [q] at h2; cases h2
    | node n cs => rw [q] at h2; exact decide_eq_true (List.mem_singleton.mp h2).symm
theorem nd_at {ns : List (List Int × Tr × List PV)} {i : Nat} {p : PV} (h : (ns.map ndV)[i]? = some p) : ∃ e, ns[i]? = some e ∧ p = ndV e := by
  rw [List.getElem?_map] at h
  cases e : ns[i]? with
  | none => rw [e] at h; cases h
  | some z => rw [e] at h; exact ⟨z, rfl, (Option.some.inj h).symm⟩
theorem mk_const {α : Type} {n : Nat} {x : α} : mk n (fun _ => x) = List.replicate n x := by
  unfold mk
  rw [List.map_const', List.length_range]
def neB (c d : Tr) : Bool := !PyData.eqv (toD c.pv) (toD d.pv)
theorem neB_iff {c d : Tr} (hc : TxtD 40 c.pv) (hd : TxtD 40 d.pv) : neB c d = true ↔ c ≠ d := by
  have h := TxtD.eqv hc hd
  have e : c.pv = d.pv ↔ c = d := ⟨Tr.pv_inj, fun e => by rw [e]⟩
  unfold neB
  rw [e] at h
  cases q : PyData.eqv (toD c.pv) (toD d.pv) <;> simp_all

/-! the sets of nodes, with the pairs above -/
abbrev Prs := List (Str × Nat)
abbrev pq (q : Str × Nat) : PV := .tup [.str q.1, .int (q.2 : Int)]
abbrev pns (s : Prs) : List Str := s.map Prod.fst
mutual
def nodesP : Tr → Prs → List (Str × Prs)
  | .leaf _, _ => []
  | .node n cs, s => (n, s) :: nodesPs n cs 0 s
def nodesPs : Str → List Tr → Nat → Prs → List (Str × Prs)
  | _, [], _, _ => []
  | n, c :: r, k, s => nodesP c (s ++ [(n, k)]) ++ nodesPs n r (k + 1) s
end
theorem nodesP_leaf {x : Str} {s : Prs} : nodesP (.leaf x) s = [] := by unfold nodesP; rfl
theorem nodesP_node {n : Str} {cs : List Tr} {s : Prs} : nodesP (.node n cs) s = (n, s) :: nodesPs n cs 0 s := by unfold nodesP; rfl
theorem nodesPs_nil {n : Str} {k : Nat} {s : Prs} : nodesPs n [] k s = [] := by unfold nodesPs; rfl
theorem nodesPs_cons {n : Str} {c : Tr} {r : List Tr} {k : Nat} {s : Prs} : nodesPs n (c :: r) k s = nodesP c (s ++ [(n, k)]) ++ nodesPs n r (k + 1) s := by conv => lhs; unfold nodesPs
theorem nodesPs_mem {n : Str} {s : Prs} {e : Str × Prs} : ∀ {cs : List Tr} {k : Nat}, e ∈ nodesPs n cs k s ↔ ∃ (i : Nat) (c : Tr), cs[i]? = some c ∧ e ∈ nodesP c (s ++ [(n, k + i)])
  | [], k => by rw [nodesPs_nil]; simp
  | c :: r, k => by
    rw [nodesPs_cons, List.mem_append, nodesPs_mem (cs := r)]
    constructor
    · rintro (h | ⟨i, d, h1, h2⟩)
      · exact ⟨0, c, rfl, h⟩
      · exact ⟨i + 1, d, by simpa using h1, by rwa [show k + (i + 1) = k + 1 + i by omega]⟩
    · rintro ⟨i, d, h1, h2⟩
      cases i with
      | zero => simp at h1; subst h1; exact .inl h2
      | succ i => exact .inr ⟨i, d, by simpa using h1, by rwa [show k + 1 + i = k + (i + 1) by omega]⟩
theorem allP_node {P : Str × Prs → Prop} {n : Str} {cs : List Tr} {s : Prs} : (∀ e ∈ nodesP (.node n cs) s, P e) ↔ P (n, s) ∧ ∀ (i : Nat) c, cs[i]? = some c → ∀ e ∈ nodesP c (s ++ [(n, i)]), P e := by
  rw [nodesP_node]
  constructor
  · intro h
    refine ⟨h _ List.mem_cons_self, fun i c hc e he => h e (List.mem_cons_of_mem _ (nodesPs_mem.mpr ⟨i, c, hc, by rwa [Nat.zero_add]⟩))⟩
  · rintro ⟨h1, h2⟩ e he
    rcases List.mem_cons.mp he with rfl | he
    · exact h1
    · obtain ⟨i, c, hc, h⟩ := nodesPs_mem.mp he
      rw [Nat.zero_add] at h
      exact h2 i c hc e h
mutual
theorem nodes_to : ∀ {t : Tr} {p : List Int} {s : Prs}, ∀ e ∈ nodesT t p (s.map pq), ∃ n cs s', e.2.1 = .node n cs ∧ e.2.2 = s'.map pq ∧ (n, s') ∈ nodesP t s
  | .leaf x, p, s, e, h => by rw [nodesT_leaf] at h; cases h
  | .node n cs, p, s, e, h => by
    rw [nodesT_node] at h
    rcases List.mem_cons.mp h with rfl | h
    · exact ⟨n, cs, s, rfl, rfl, by rw [nodesP_node]; exact List.mem_cons_self⟩
    · obtain ⟨n', cs', s', h1, h2, h3⟩ := nodes_tos e h
      exact ⟨n', cs', s', h1, h2, by rw [nodesP_node]; exact List.mem_cons_of_mem _ h3⟩
theorem nodes_tos : ∀ {n : Str} {cs : List Tr} {k : Nat} {p : List Int} {s : Prs}, ∀ e ∈ nodesTs n cs k p (s.map pq), ∃ n' cs' s', e.2.1 = .node n' cs' ∧ e.2.2 = s'.map pq ∧ (n', s') ∈ nodesPs n cs k s
  | n, [], k, p, s, e, h => by rw [nodesTs_nil] at h; cases h
  | n, c :: r, k, p, s, e, h => by
    rw [nodesTs_cons] at h
    rcases List.mem_append.mp h with h | h
    · rw [show s.map pq ++ [PV.tup [.str n, .int (k : Int)]] = (s ++ [(n, k)]).map pq by rw [List.map_append]; rfl] at h
      obtain ⟨n', cs', s', h1, h2, h3⟩ := nodes_to e h
      exact ⟨n', cs', s', h1, h2, by rw [nodesPs_cons]; exact List.mem_append_left _ h3⟩
    · obtain ⟨n', cs', s', h1, h2, h3⟩ := nodes_tos e h
      exact ⟨n', cs', s', h1, h2, by rw [nodesPs_cons]; exact List.mem_append_right _ h3⟩
end
mutual
theorem nodes_of : ∀ {t : Tr} {p : List Int} {s : Prs}, ∀ e ∈ nodesP t s, ∃ d ∈ nodesT t p (s.map pq), ∃ cs, d.2.1 = .node e.1 cs ∧ d.2.2 = e.2.map pq
  | .leaf x, p, s, e, h => by rw [nodesP_leaf] at h; cases h
  | .node n cs, p, s, e, h => by
    rw [nodesP_node] at h
    rcases List.mem_cons.mp h with rfl | h
    · exact ⟨_, by rw [nodesT_node]; exact List.mem_cons_self, cs, rfl, rfl⟩
    · obtain ⟨d, h1, h2⟩ := nodes_ofs (p := p) e h
      exact ⟨d, by rw [nodesT_node]; exact List.mem_cons_of_mem _ h1, h2⟩
theorem nodes_ofs : ∀ {n : Str} {cs : List Tr} {k : Nat} {p : List Int} {s : Prs}, ∀ e ∈ nodesPs n cs k s, ∃ d ∈ nodesTs n cs k p (s.map pq), ∃ ds, d.2.1 = .node e.1 ds ∧ d.2.2 = e.2.map pq
  | n, [], k, p, s, e, h => by rw [nodesPs_nil] at h; cases h
  | n, c :: r, k, p, s, e, h => by
    rw [nodesPs_cons] at h
    rcases List.mem_append.mp h with h | h
    · obtain ⟨d, h1, h2⟩ := nodes_of (p := p ++ [(k : Int)]) e h
      refine ⟨d, ?_, h2⟩
      rw [nodesTs_cons]
      refine List.mem_append_left _ ?_
      rw [show s.map pq ++ [PV.tup [.str n, .int (k : Int)]] = (s ++ [(n, k)]).map pq by rw [List.map_append]; rfl]
      exact h1
    · obtain ⟨d, h1, h2⟩ := nodes_ofs (p := p) e h
      exact ⟨d, by rw [nodesTs_cons]; exact List.mem_append_right _ h1, h2⟩
end
theorem nodesP_nm {t : Tr} {s : Prs} {e : Str × Prs} (h : e ∈ nodesP t s) : e.1 ∈ nmT t := by
  obtain ⟨d, h1, cs, h2, _⟩ := nodes_of (p := []) e h
  rw [← nodes_nm (t := t) (p := []) (s := s.map pq), List.mem_flatMap]
  exact ⟨d, h1, by rw [h2]; exact List.mem_singleton.mpr rfl⟩
/-- the move of the last pair of a set -/
def tkF (u : Str) : Option Nat → Prs → Option Nat
  | tk, [] => tk
  | tk, q :: s => tkF u (if q.1 = u then some q.2 else tk) s
abbrev tkOf (u : Str) (s : Prs) : Option Nat := tkF u none s
theorem tkF_app {u : Str} : ∀ {s r : Prs} {tk : Option Nat}, tkF u tk (s ++ r) = tkF u (tkF u tk s) r
  | [], r, tk => rfl
  | q :: s, r, tk => by
    show tkF u _ (s ++ r) = tkF u (tkF u _ s) r
    exact tkF_app
theorem tkOf_snoc {u n : Str} {i : Nat} {s : Prs} : tkOf u (s ++ [(n, i)]) = if n = u then some i else tkOf u s := by
  unfold tkOf
  rw [tkF_app]; rfl
theorem tkF_some {u : Str} {k : Nat} : ∀ {s : Prs} {tk : Option Nat}, (pns s).Nodup → (tkF u tk s = some k ↔ (u, k) ∈ s ∨ (tk = some k ∧ u ∉ pns s))
  | [], tk, _ => by show tk = some k ↔ _; simp
  | q :: s, tk, nd => by
    have nd2 := List.nodup_cons.mp (show (q.1 :: pns s).Nodup from nd)
    show tkF u (if q.1 = u then some q.2 else tk) s = some k ↔ _
    rw [tkF_some nd2.2]
    by_cases e : q.1 = u
    · rw [if_pos e]
      have nu : u ∉ pns s := e ▸ nd2.1
      have nk : (u, k) ∉ s := fun h => nu (List.mem_map_of_mem (f := Prod.fst) h)
      constructor
      · rintro (h | ⟨h, _⟩)
        · exact absurd h nk
        · cases h; exact .inl (by rw [← e]; exact List.mem_cons_self)
      · rintro (h | ⟨_, h⟩)
        · rcases List.mem_cons.mp h with h | h
          · rw [← h]; exact .inr ⟨rfl, nu⟩
          · exact absurd h nk
        · exact absurd (by show u ∈ q.1 :: pns s; rw [e]; exact List.mem_cons_self) h
    · rw [if_neg e]
      constructor
      · rintro (h | ⟨h1, h2⟩)
        · exact .inl (List.mem_cons_of_mem _ h)
        · refine .inr ⟨h1, fun h => ?_⟩
          rcases List.mem_cons.mp (show u ∈ q.1 :: pns s from h) with h | h
          · exact e h.symm
          · exact h2 h
      · rintro (h | ⟨h1, h2⟩)
        · rcases List.mem_cons.mp h with h | h
          · rw [← h] at e; exact absurd rfl e
          · exact .inl h
        · exact .inr ⟨h1, fun h => h2 (List.mem_cons_of_mem _ h)⟩
theorem tkF_is {u : Str} : ∀ {s : Prs} {tk : Option Nat}, (∃ k, tkF u tk s = some k) ↔ u ∈ pns s ∨ ∃ k, tk = some k
  | [], tk => by show (∃ k, tk = some k) ↔ _; simp
  | q :: s, tk => by
    show (∃ k, tkF u (if q.1 = u then some q.2 else tk) s = some k) ↔ u ∈ q.1 :: pns s ∨ _
    rw [tkF_is, List.mem_cons]
    by_cases e : q.1 = u
    · rw [if_pos e]
      exact ⟨fun _ => .inl (.inl e.symm), fun _ => .inr ⟨_, rfl⟩⟩
    · rw [if_neg e]
      constructor
      · rintro (h | h)
        · exact .inl (.inr h)
        · exact .inr h
      · rintro ((h | h) | h)
        · exact absurd h.symm e
        · exact .inl h
        · exact .inr h
theorem tkOf_is {u : Str} {s : Prs} : (∃ k, tkOf u s = some k) ↔ u ∈ pns s := by
  rw [tkF_is]; simp
theorem nodesP_nd {us : List Str} {rs : List Row} {t : Tr} (h : TOk us rs t) : ∀ {s : Prs}, (pns s).Nodup → (∀ n ∈ pns s, n ∉ namesOf rs) → ∀ e ∈ nodesP t s, (pns e.2).Nodup := by
  induction h with
  | leaf _ => intro s _ _ e he; rw [nodesP_leaf] at he; cases he
  | @node rs r cs hr hl hc ih =>
    intro s nd ns
    rw [allP_node]
    refine ⟨nd, fun i c hci e he => ?_⟩
    have hcm := List.mem_of_getElem? hci
    refine ih c hcm ?_ (fun n hn => ?_) e he
    · rw [pns, List.map_append, List.nodup_append]
      refine ⟨nd, by simp, fun a ha b hb e => ?_⟩
      have hb : b = r.nm := by simpa using hb
      exact ns a ha (by rw [e, hb]; exact List.mem_map_of_mem hr)
    · rw [pns, List.map_append, List.mem_append] at hn
      intro q
      obtain ⟨q', hq', e'⟩ := List.mem_map.mp q
      rcases hn with hn | hn
      · exact ns n hn (e' ▸ List.mem_map_of_mem (offN_sub hq'))
      · have hn : n = r.nm := by simpa using hn
        exact (offN_mem.mp hq').2 (e'.trans hn)
/-! other names for the nodes -/
mutual
def mapT (f : Str → Str) : Tr → Tr
  | .leaf z => .leaf z
  | .node n cs => .node (f n) (mapTs f cs)
def mapTs (f : Str → Str) : List Tr → List Tr
  | [] => []
  | c :: r => mapT f c :: mapTs f r
end
theorem mapTs_map {f : Str → Str} : ∀ cs : List Tr, mapTs f cs = cs.map (mapT f)
  | [] => by unfold mapTs; rfl
  | c :: r => by unfold mapTs; rw [mapTs_map r]; rfl
theorem mapT_leaf {f : Str → Str} {z : Str} : mapT f (.leaf z) = .leaf z := by unfold mapT; rfl
theorem mapT_node {f : Str → Str} {n : Str} {cs : List Tr} : mapT f (.node n cs) = .node (f n) (cs.map (mapT f)) := by
  conv => lhs; unfold mapT
  rw [mapTs_map]
mutual
theorem mapT_congr {f g : Str → Str} : ∀ {t : Tr}, (∀ n ∈ nmT t, f n = g n) → mapT f t = mapT g t
  | .leaf z, _ => by rw [mapT_leaf, mapT_leaf]
  | .node n cs, h => by
    rw [mapT_node, mapT_node, h n (nmT_node.mpr (.inl rfl)), ← mapTs_map, ← mapTs_map, mapTs_congr fun m hm => h m (by unfold nmT; exact List.mem_cons_of_mem _ hm)]
theorem mapTs_congr {f g : Str → Str} : ∀ {cs : List Tr}, (∀ n ∈ nmTs cs, f n = g n) → mapTs f cs = mapTs g cs
  | [], _ => by unfold mapTs; rfl
  | c :: r, h => by
    unfold nmTs at h
    rw [mapTs_map, mapTs_map, List.map_cons, List.map_cons, mapT_congr fun n hn => h n (List.mem_append_left _ hn), ← mapTs_map, ← mapTs_map, mapTs_congr fun n hn => h n (List.mem_append_right _ hn)]
end
mutual
theorem mapT_mapT {f g : Str → Str} : ∀ {t : Tr}, mapT g (mapT f t) = mapT (fun n => g (f n)) t
  | .leaf z => by rw [mapT_leaf, mapT_leaf, mapT_leaf]
  | .node n cs => by rw [mapT_node, mapT_node, mapT_node, ← mapTs_map, ← mapTs_map, ← mapTs_map, mapTs_mapTs]
theorem mapTs_mapTs {f g : Str → Str} : ∀ {cs : List Tr}, mapTs g (mapTs f cs) = mapTs (fun n => g (f n)) cs
  | [] => by unfold mapTs; rfl
  | c :: r => by
    rw [mapTs_map, mapTs_map, mapTs_map, List.map_cons, List.map_cons, List.map_cons, mapT_mapT, ← mapTs_map, ← mapTs_map, ← mapTs_map, mapTs_mapTs]
end
mutual
theorem mapT_id {f : Str → Str} : ∀ {t : Tr}, (∀ n ∈ nmT t, f n = n) → mapT f t = t
  | .leaf z, _ => by rw [mapT_leaf]
  | .node n cs, h => by
    rw [mapT_node, h n (nmT_node.mpr (.inl rfl)), ← mapTs_map, mapTs_id fun m hm => h m (by unfold nmT; exact List.mem_cons_of_mem _ hm)]
theorem mapTs_id {f : Str → Str} : ∀ {cs : List Tr}, (∀ n ∈ nmTs cs, f n = n) → mapTs f cs = cs
  | [], _ => by unfold mapTs; rfl
  | c :: r, h => by
    unfold nmTs at h
    rw [mapTs_map, List.map_cons, mapT_id fun n hn => h n (List.mem_append_left _ hn), ← mapTs_map, mapTs_id fun n hn => h n (List.mem_append_right _ hn)]
end
mutual
theorem relT_map {x y : Str} : ∀ {t : Tr}, relT x y t = mapT (fun n => if n = x then y else n) t
  | .leaf z => by rw [relT_leaf, mapT_leaf]
  | .node n cs => by rw [relT_node, mapT_node, ← relTs_map, ← mapTs_map, relTs_mapTs]
theorem relTs_mapTs {x y : Str} : ∀ {cs : List Tr}, relTs x y cs = mapTs (fun n => if n = x then y else n) cs
  | [] => by unfold relTs mapTs; rfl
  | c :: r => by rw [relTs_map, mapTs_map, List.map_cons, List.map_cons, relT_map, ← relTs_map, ← mapTs_map, relTs_mapTs]
end
theorem BT.map {f : Str → Str} {n : Nat} {t : Tr} (h : BT n t) : BT n (mapT f t) := by
  induction h with
  | leaf => rw [mapT_leaf]; exact .leaf
  | node h1 _ ih =>
    rw [mapT_node]
    refine .node (by rw [List.length_map]; exact h1) fun d hd => ?_
    obtain ⟨c, hc, rfl⟩ := List.mem_map.mp hd
    exact ih c hc
theorem rel_fold {h : Str} : ∀ {ns : List Str} {t : Tr}, h ∉ ns → ns.foldl (fun t p => relT p h t) t = mapT (fun n => if n ∈ ns then h else n) t
  | [], t, _ => by
    show t = _
    exact (mapT_id fun n _ => by simp).symm
  | p :: ns, t, hn => by
    have h1 : h ∉ ns := fun q => hn (List.mem_cons_of_mem _ q)
    show ns.foldl _ (relT p h t) = _
    rw [rel_fold h1, relT_map, mapT_mapT]
    refine mapT_congr fun n _ => ?_
    by_cases e : n = p
    · subst e
      rw [if_pos rfl, if_neg h1, if_pos List.mem_cons_self]
    · rw [if_neg e]
      by_cases e2 : n ∈ ns
      · rw [if_pos e2, if_pos (List.mem_cons_of_mem _ e2)]
      · rw [if_neg e2, if_neg fun q => (List.mem_cons.mp q).elim e e2]
abbrev glueT (ns : List Str) (x : Str) (t : Tr) : Tr := mapT (fun n => if n ∈ ns then x else n) t
theorem rel_glue {h x : Str} {ns : List Str} {t : Tr} (h1 : h ∉ ns) (h2 : h ∉ nmT t) : relT h x (ns.foldl (fun t p => relT p h t) t) = glueT ns x t := by
  rw [rel_fold h1, relT_map, mapT_mapT]
  refine mapT_congr fun n hn => ?_
  by_cases e : n ∈ ns
  · rw [if_pos e, if_pos e, if_pos rfl]
  · rw [if_neg e, if_neg e, if_neg (fun (q : n = h) => h2 (q ▸ hn))]
/-! cut -/
abbrev nk (u n : Str) (tk : Option Nat) (i : Nat) : Option Nat := if n = u then some i else tk
abbrev cnm (x : Str) (ns : List Str) (tk : Option Nat) (n : Str) : Str := if n = x then (match tk with | some k => ns.getD k x | none => x) else n
theorem cnm_eq {x n : Str} {ns : List Str} {tk : Option Nat} {k : Nat} (e : n = x) (h : tk = some k) : cnm x ns tk n = ns.getD k x := by
  subst h
  show (if n = x then _ else _) = _
  rw [if_pos e]
theorem cnm_ne {x n : Str} {ns : List Str} {tk : Option Nat} (e : n ≠ x) : cnm x ns tk n = n := by
  show (if n = x then _ else _) = _
  rw [if_neg e]
mutual
def cutT (u x : Str) (ns : List Str) (tk : Option Nat) : Tr → Tr
  | .leaf z => .leaf z
  | .node n cs => .node (cnm x ns tk n) (cutTs u x ns tk n 0 cs)
def cutTs (u x : Str) (ns : List Str) (tk : Option Nat) (n : Str) (i : Nat) : List Tr → List Tr
  | [] => []
  | c :: r => cutT u x ns (nk u n tk i) c :: cutTs u x ns tk n (i + 1) r
end
theorem cutT_leaf {u x z : Str} {ns : List Str} {tk : Option Nat} : cutT u x ns tk (.leaf z) = .leaf z := by unfold cutT; rfl
theorem cutT_node {u x n : Str} {ns : List Str} {tk : Option Nat} {cs : List Tr} : cutT u x ns tk (.node n cs) = .node (cnm x ns tk n) (cutTs u x ns tk n 0 cs) := by
  conv => lhs; unfold cutT
theorem cutTs_cons {u x n : Str} {ns : List Str} {tk : Option Nat} {i : Nat} {c : Tr} {r : List Tr} : cutTs u x ns tk n i (c :: r) = cutT u x ns (nk u n tk i) c :: cutTs u x ns tk n (i + 1) r := by
  conv => lhs; unfold cutTs
theorem cutTs_nil {u x n : Str} {ns : List Str} {tk : Option Nat} {i : Nat} : cutTs u x ns tk n i [] = [] := by unfold cutTs; rfl
theorem cutTs_len {u x n : Str} {ns : List Str} {tk : Option Nat} : ∀ {cs : List Tr} {i : Nat}, (cutTs u x ns tk n i cs).length = cs.length
  | [], i => by rw [cutTs_nil]
  | c :: r, i => by rw [cutTs_cons, List.length_cons, cutTs_len, List.length_cons]
theorem cutTs_get {u x n : Str} {ns : List Str} {tk : Option Nat} : ∀ {cs : List Tr} {i j : Nat}, (cutTs u x ns tk n i cs)[j]? = (cs[j]?).map (cutT u x ns (nk u n tk (i + j)))
  | [], i, j => by rw [cutTs_nil]; simp
  | c :: r, i, 0 => by rw [cutTs_cons]; simp
  | c :: r, i, j + 1 => by rw [cutTs_cons, List.getElem?_cons_succ, cutTs_get, List.getElem?_cons_succ, show i + 1 + j = i + (j + 1) by omega]
theorem cutTs_snoc {u x n : Str} {ns : List Str} {tk : Option Nat} {c : Tr} : ∀ {cs : List Tr} {i : Nat}, cutTs u x ns tk n i (cs ++ [c]) = cutTs u x ns tk n i cs ++ [cutT u x ns (nk u n tk (i + cs.length)) c]
  | [], i => by rw [List.nil_append, cutTs_cons, cutTs_nil, cutTs_nil]; rfl
  | d :: r, i => by rw [List.cons_append, cutTs_cons, cutTs_cons, cutTs_snoc, List.length_cons, show i + 1 + r.length = i + (r.length + 1) by omega]; rfl
theorem cut_mem {u x n : Str} {ns : List Str} {tk : Option Nat} {cs : List Tr} {d : Tr} (h : d ∈ cutTs u x ns tk n 0 cs) : ∃ (i : Nat) (c : Tr), cs[i]? = some c ∧ d = cutT u x ns (nk u n tk i) c := by
  obtain ⟨i, hi⟩ := List.getElem?_of_mem h
  rw [cutTs_get, Nat.zero_add] at hi
  cases e : cs[i]? with
  | none => rw [e] at hi; cases hi
  | some c => rw [e] at hi; exact ⟨i, c, e, (Option.some.inj hi).symm⟩
theorem BT.cut {u x : Str} {ns : List Str} {n : Nat} {t : Tr} (h : BT n t) : ∀ {tk : Option Nat}, BT n (cutT u x ns tk t) := by
  induction h with
  | leaf => intro tk; rw [cutT_leaf]; exact .leaf
  | node h1 _ ih =>
    intro tk
    rw [cutT_node]
    refine .node (by rw [cutTs_len]; exact h1) fun d hd => ?_
    obtain ⟨i, c, hc, rfl⟩ := cut_mem hd
    exact ih c (List.mem_of_getElem? hc)
/-- the nodes of x lie behind u -/
def BehP (u x : Str) (t : Tr) (s : Prs) : Prop := ∀ e ∈ nodesP t s, e.1 = x → u ∈ pns e.2
/-- the nodes of the sets lie behind their moves -/
def GlP (u : Str) (ns : List Str) (t : Tr) (s : Prs) : Prop := ∀ e ∈ nodesP t s, e.1 ∈ ns → ∃ k, tkOf u e.2 = some k ∧ ns[k]? = some e.1
theorem BehP.node {u x n : Str} {cs : List Tr} {s : Prs} : BehP u x (.node n cs) s ↔ (n = x → u ∈ pns s) ∧ ∀ (i : Nat) c, cs[i]? = some c → BehP u x c (s ++ [(n, i)]) := allP_node
theorem GlP.node {u n : Str} {ns : List Str} {cs : List Tr} {s : Prs} : GlP u ns (.node n cs) s ↔ (n ∈ ns → ∃ k, tkOf u s = some k ∧ ns[k]? = some n) ∧ ∀ (i : Nat) c, cs[i]? = some c → GlP u ns c (s ++ [(n, i)]) := allP_node
theorem nk_of {u n : Str} {i : Nat} {s : Prs} : nk u n (tkOf u s) i = tkOf u (s ++ [(n, i)]) := tkOf_snoc.symm
/-- the moves of u stand in the pairs -/
abbrev InW (u : Str) (w : Nat) (s : Prs) : Prop := ∀ k, tkOf u s = some k → k < w
theorem InW.kid {u n : Str} {w : Nat} {s : Prs} {cs : List Tr} {i : Nat} {c : Tr} (h : InW u w s) (a : AT u w (.node n cs)) (hc : cs[i]? = some c) : InW u w (s ++ [(n, i)]) := fun k hk => by
  rw [tkOf_snoc] at hk
  split at hk
  · rename_i e
    cases hk
    have := a.kid.1 e
    have := lt_of_get hc
    omega
  · exact h k hk
/-- cut, then glued -/
theorem glue_cut {u x : Str} {ns : List Str} : ∀ {n : Nat} {t : Tr} {s : Prs}, BT n t → AT u ns.length t → InW u ns.length s → (∀ n ∈ nmT t, n ≠ x → n ∉ ns) → BehP u x t s → glueT ns x (cutT u x ns (tkOf u s) t) = t
  | n + 1, _, s, .leaf, _, _, _, _ => by rw [cutT_leaf, glueT, mapT_leaf]
  | n + 1, _, s, .node (x := m) (cs := cs) hl hc, ha, hw, hn, hb => by
    obtain ⟨b1, b2⟩ := BehP.node.mp hb
    rw [cutT_node, glueT, mapT_node]
    congr 1
    · by_cases e : m = x
      · obtain ⟨k, hk⟩ := tkOf_is.mpr (b1 e)
        have hkl := hw k hk
        have h1 : ns.getD k x ∈ ns := by
          rw [getD_at (List.getElem?_eq_getElem hkl)]
          exact List.getElem_mem hkl
        rw [cnm_eq e hk, if_pos h1, e]
      · rw [cnm_ne e, if_neg (hn m (nmT_node.mpr (.inl rfl)) e)]
    · refine List.ext_getElem? fun i => ?_
      rw [List.getElem?_map, cutTs_get, Nat.zero_add, Option.map_map]
      cases e : cs[i]? with
      | none => rfl
      | some c =>
        have hcm := List.mem_of_getElem? e
        rw [nk_of]
        exact congrArg some (glue_cut (hc c hcm) (ha.kid.2 c hcm) (hw.kid ha e) (fun k hk => hn k (nmT_node.mpr (.inr ⟨c, hcm, hk⟩))) (b2 i c e))
/-- glued, then cut -/
theorem cut_glue {u x : Str} {ns : List Str} (hu : u ∉ ns) (hux : u ≠ x) : ∀ {n : Nat} {t : Tr} {s : Prs}, BT n t → (∀ n ∈ nmT t, n = x → x ∈ ns) → GlP u ns t s → cutT u x ns (tkOf u s) (glueT ns x t) = t
  | n + 1, _, s, .leaf, _, _ => by rw [glueT, mapT_leaf, cutT_leaf]
  | n + 1, _, s, .node (x := m) (cs := cs) hl hc, hn, hg => by
    obtain ⟨b1, b2⟩ := GlP.node.mp hg
    have fm : (if m ∈ ns then x else m) = u ↔ m = u := by
      by_cases e : m ∈ ns
      · rw [if_pos e]
        exact ⟨fun q => absurd q.symm hux, fun q => absurd (q ▸ e) hu⟩
      · rw [if_neg e]
    rw [glueT, mapT_node, cutT_node]
    congr 1
    · by_cases e : m ∈ ns
      · obtain ⟨k, hk, hkm⟩ := b1 e
        rw [if_pos e, cnm_eq rfl hk]
        exact getD_at hkm
      · rw [if_neg e, cnm_ne fun q => e (by rw [q]; exact hn m (nmT_node.mpr (.inl rfl)) q)]
    · refine List.ext_getElem? fun i => ?_
      rw [cutTs_get, Nat.zero_add, List.getElem?_map, Option.map_map]
      cases e : cs[i]? with
      | none => rfl
      | some c =>
        have hcm := List.mem_of_getElem? e
        have ek : nk u (if m ∈ ns then x else m) (tkOf u s) i = tkOf u (s ++ [(m, i)]) := by
          rw [tkOf_snoc, nk]
          by_cases q : m = u
          · rw [if_pos (fm.mpr q), if_pos q]
          · rw [if_neg (fun z => q (fm.mp z)), if_neg q]
        rw [ek]
        exact congrArg some (cut_glue hu hux (hc c hcm) (fun k hk => hn k (nmT_node.mpr (.inr ⟨c, hcm, hk⟩))) (b2 i c e))

def sp_without_row (K : Kf) : PSpec := fun vs M Q _ => ∃ (rs : List Row) (x : Str), vs = [rowsV rs, .str x] ∧ rs.length ≤ 1000 ∧ Q (rowsV (rs.filter fun r => !decide (r.nm = x))) M
theorem sp_without_row_len {K : Kf} {vs : List PV} {M : PHp} {Q : PVK} {E : PXK} (h : sp_without_row K vs M Q E) : vs.length = 2 := by
  obtain ⟨_, _, rfl, _⟩ := h; rfl

theorem ok_without_row {P : Program} {w : World} {K : Kf} {mg : Str → Option Value} {base : Heap} (h0 : Here K mg "without_row" s_without_row ["sets", "name"]) (T : Blt mg) (XC : Xc K mg) (Su : Sure P base)  : Callee P w K mg base 34 "without_row" ["sets", "name"] (sp_without_row K) := by
  refine ok_of h0 sc_without_row (fun vs M Q E h => sp_without_row_len h) (fun f cdv A outer s H E hr => ⟨_, (pssone (psret (pcallTy (cTupleK (K := K)) (by rfl) T.b_tuple (by decide +kernel) (pacons (plcF  rfl sc_without_row.nd (piseqK (K := K) (pv 0)) (blkOk_by (own := [("row", 2)]) (N := ["sets", "name", "row"]) (sc := defScope s_without_row) (by decide +kernel)) (tgName (by decide)) (fun _ _ _ _ _ => (pg_name (i := 2) sc_without_row.nd rfl (by first | exact Or.inl rfl | exact Or.inr rfl))) (fun _ _ _ _ _ => (ptsone (ptcmp (opNeK (K := K) (by exact hr.units)) (pixK (K := K) (pv 2) pinT) (pv 1) (nomark _)))) (fun _ _ _ _ _ => (pv 2))) panil)))), fun vs M Q Ep h => ?_⟩)
  obtain ⟨rs, x, rfl, hl, k⟩ := h
  walk_at "go"
  refine ⟨fun i => !decide ((rs.getD i r0).nm = x), fun i => (rs.getD i r0).pv, by rw [List.length_map]; omega, fun _ _ => trivial, fun i x M2 Q3 hx sb k3 => ?_, fun i x M2 Q2 hx hb sb k2 => ?_, fun Dl l hD hl => ?_⟩
  · obtain ⟨r, hr, rfl⟩ := row_at hx
    refine ⟨_, rfl, ?_⟩
    simp only [getD_at hr] at k3
    walk_at "on"
    exact k3 _ (.refl _)
  · obtain ⟨r, hr, rfl⟩ := row_at hx
    refine ⟨_, rfl, ?_⟩
    simp only [getD_at hr] at k2
    walk_at "on"
    exact k2 _ (.refl _)
  · rw [List.length_map, flt_list rs r0 (fun r => !decide (r.nm = x)) Row.pv] at hl
    subst hl
    walk_at "on"
    exact ⟨M, .new hD, k⟩

def sp_with_row (K : Kf) : PSpec := fun vs M Q _ => ∃ (rs : List Row) (r : Row), vs = [rowsV rs, r.pv] ∧ rs.length ≤ 1000 ∧ (∀ q ∈ rs ++ [r], q.ws.length ≤ 1000) ∧ (namesOf (rs ++ [r])).Nodup ∧ ∀ qs, qs.Perm (rs ++ [r]) → SortedN qs → Q (rowsV qs) M
theorem sp_with_row_len {K : Kf} {vs : List PV} {M : PHp} {Q : PVK} {E : PXK} (h : sp_with_row K vs M Q E) : vs.length = 2 := by
  obtain ⟨_, _, rfl, _⟩ := h; rfl

theorem ok_with_row {P : Program} {w : World} {K : Kf} {mg : Str → Option Value} {base : Heap} (h0 : Here K mg "with_row" s_with_row ["sets", "row"]) (T : Blt mg) (XC : Xc K mg) (Su : Sure P base)  : Callee P w K mg base 34 "with_row" ["sets", "row"] (sp_with_row K) := by
  refine ok_of h0 sc_with_row (fun vs M Q E h => sp_with_row_len h) (fun f cdv A outer s H E hr => ⟨_, (pssone (psret (pcallTy (cTupleK (K := K)) (by rfl) T.b_tuple (by decide +kernel) (pacons (pcallB (cSortDK (K := K) (by exact hr.units)) (by rfl) T.b_sorted (by decide +kernel) (pacons (pop opAdd (pv 0) (ptup (pacons (pv 1) panil))) panil)) panil)))), fun vs M Q Ep h => ?_⟩)
  obtain ⟨rs, r, rfl, hl, hw, nd, k⟩ := h
  walk_at "go"
  refine ⟨by rw [List.length_map, sizeLine_eq]; simp; omega, ?_⟩
  walk_at "on"
  have e : rs.map Row.pv ++ [r.pv] = (rs ++ [r]).map Row.pv := by rw [List.map_append]; rfl
  rw [e]
  obtain ⟨qs, e2, pm, sn⟩ := sort_rows nd
  refine ⟨_, rfl, rows_pure hw, (rows_sortable _).1, (rows_sortable _).2, fun p hp => ?_⟩
  rw [e2]
  walk_at "on"
  exact ⟨M, .new hp, k qs pm sn⟩

abbrev BadS (K : Kf) : Value := .ref (clsA K "BadStep")
structure RwOk (rs : List Row) : Prop where
  sn : SortedN rs
  ls : ∀ r ∈ rs, r.ws.length ≤ 1000
  le : rs.length ≤ 1000
theorem nd_snoc {rs : List Row} {r : Row} (h : (namesOf rs).Nodup) (n : r.nm ∉ namesOf rs) : (namesOf (rs ++ [r])).Nodup := by
  rw [namesOf, List.map_append, List.nodup_append]
  refine ⟨h, by simp, fun a ha b hb e => n ?_⟩
  rw [List.map_singleton, List.mem_singleton] at hb
  rw [← hb, ← e]; exact ha

theorem str_at {us : List Str} {i : Nat} {p : PV} (h : (us.map PV.str)[i]? = some p) : ∃ x, us[i]? = some x ∧ p = .str x := by
  rw [List.getElem?_map] at h
  cases e : us[i]? with
  | none => rw [e] at h; cases h
  | some z => rw [e] at h; exact ⟨z, rfl, (Option.some.inj h).symm⟩
abbrev optN : Option Nat → PV
  | none => .non
  | some k => .int (k : Int)
abbrev strsV (ns : List Str) : PV := .tup (ns.map PV.str)
theorem strs_at {ns : List Str} {k : Nat} {x : Str} (h : k < ns.length) : atI (ns.map PV.str) (k : Int) = some (.str (ns.getD k x)) := by
  refine atI_nat ?_
  rw [List.getElem?_map, List.getElem?_eq_getElem h, getD_at (List.getElem?_eq_getElem h)]; rfl
theorem node_pv {n : Str} {ds : List Tr} : (Tr.node n ds).pv = .tup [.str n, .tup (ds.map Tr.pv)] := by
  show PV.tup [.str _, .tup (Tr.pvs _)] = _
  rw [Tr.pvs_map]
def sp__cut_nodes (K : Kf) (n : Nat) : PSpec := fun vs M Q E => ∃ (t : Tr) (u x : Str) (ns : List Str) (s : Prs), vs = [t.pv, .str u, .str x, strsV ns, optN (tkOf u s)] ∧ BT n t ∧ AT u ns.length t ∧ InW u ns.length s ∧ ns.length ≤ 1000 ∧
  (BehP u x t s → Q (cutT u x ns (tkOf u s) t).pv M) ∧ (¬ BehP u x t s → ∀ M', Sub M M' → E (BadS K) none M')
theorem sp__cut_nodes_len {K : Kf} {n : Nat} {vs : List PV} {M : PHp} {Q : PVK} {E : PXK} (h : sp__cut_nodes K n vs M Q E) : vs.length = 5 := by
  obtain ⟨_, _, _, _, _, rfl, _⟩ := h; rfl
theorem sp__cut_nodes_zero {K : Kf} {vs : List PV} {M : PHp} {Q : PVK} {E : PXK} (h : sp__cut_nodes K 0 vs M Q E) : False := by
  obtain ⟨_, _, _, _, _, rfl, h, _⟩ := h; cases h

theorem ok__cut_nodes {P : Program} {w : World} {K : Kf} {mg : Str → Option Value} {base : Heap} (h0 : Here K mg "_cut_nodes" s__cut_nodes ["node", "upper", "name", "names", "taken"]) (T : Blt mg) (XC : Xc K mg) (Su : Sure P base)  : ∀ n : Nat, CalleeR (L2.CX P w) P w K mg base (34 + n) "_cut_nodes" ["node", "upper", "name", "names", "taken"] (sp__cut_nodes K n)
  | 0 => (CalleeR.neverz (k := 33) h0 sc__cut_nodes).imp fun _ _ _ _ h => (sp__cut_nodes_zero h).elim
  | n + 1 => by
    have C__cut_nodes := ok__cut_nodes (P := P) (w := w) (base := base) h0 T XC Su  n
    refine okR_z (k := 34 + n) h0 sc__cut_nodes (fun vs M Q E h => sp__cut_nodes_len h) (fun f cdv A outer s H E Ep hr air tk own => ⟨_, (psscons (psif (ptval (pcallB (cIsiK (K := K)) (by rfl) T.b_isinstance (by decide +kernel) (pacons (pv 0) (pacons (pbltn (p := .ty "str") (v := .ty "str") (by rfl) T.b_str (by decide +kernel) rfl (fun _ => .ty _)) panil)))) (pssone (psret (pv 0))) pssnil)
      (psscons (psset 5 sc__cut_nodes.nd (pixK (K := K) (pv 0) pinT))
      (psscut (psif (ptcmp (opEqK (K := K) (by exact hr.units)) (pv 5) (pv 2) (nomark _)) (psscons (psif (ptcmp opIsN (pv 4) pnon (nomark _)) (pssone (psraise air XC.o_BadStep)) pssnil)
      (pssone (psset 5 sc__cut_nodes.nd (pixK (K := K) (pv 3) (pv 4))))) pssnil)
      (psscons (psset 6 sc__cut_nodes.nd (plst panil))
      (psscons (psfor own rfl (pienumerate (by rfl) T.b_enumerate (pacons (pixK (K := K) (pv 0) pinT) panil)) (pgtup rfl (pgscons (pgname (i := 7) sc__cut_nodes.nd) (pgscons (pgname (i := 8) sc__cut_nodes.nd) pgsnil))) (pssone (psif (ptcmp (opEqK (K := K) (by exact hr.units)) (pixK (K := K) (pv 0) pinT) (pv 1) (nomark _)) (pssone (psexpr (pbmK (K := K) PySem.F.plainAttrs_list PySem.F.slot_list_append PySem.F.type_list_append mAppend (pv 6) (pacons (pcallR C__cut_nodes air (by exact hr.mono (by first | decide | omega)) (pacons (pv 8) (pacons (pv 1) (pacons (pv 2) (pacons (pv 3) (pacons (pv 7) panil)))))) panil)))) (pssone (psexpr (pbmK (K := K) PySem.F.plainAttrs_list PySem.F.slot_list_append PySem.F.type_list_append mAppend (pv 6) (pacons (pcallR C__cut_nodes air (by exact hr.mono (by first | decide | omega)) (pacons (pv 8) (pacons (pv 1) (pacons (pv 2) (pacons (pv 3) (pacons (pv 4) panil)))))) panil)))))))
      (pssone (psret (ptup (pacons (pv 5) (pacons (pcallTy (cTupleK (K := K)) (by rfl) T.b_tuple (by decide +kernel) (pacons (pv 6) panil)) panil)))))))))), fun vs M Q h => ?_⟩)
    obtain ⟨t, u, x, ns, s, rfl, hb, ha, hw, hn, k1, k2⟩ := h
    cases hb with
    | leaf =>
      rw [cutT_leaf] at k1
      have k1 := k1 fun e he => by rw [nodesP_leaf] at he; cases he
      walk_at "go"
      exact ⟨_, .refl _, k1⟩
    | @node _ m cs hl hc =>
      have pl : (Tr.pvs cs).length = cs.length := pvs_len
      have h0 : Hd [] M M [] := .start
      walk_at "go"
      refine ⟨fun σ M1 => ∃ lb : Str, σ = [some (Tr.node m cs).pv, some (.str u), some (.str x), some (strsV ns), some (optN (tkOf u s)), some (.str lb), none, none, none] ∧ M = M1 ∧ lb = cnm x ns (tkOf u s) m ∧ (m = x → u ∈ pns s), ?_, ?_⟩
      · walk_at "on"
        refine br_dec (fun h => ?_) (fun h => ?_)
        · cases e : tkOf u s with
          | none =>
            walk_at "on"
            refine ⟨_, .refl _, k2 (fun q => ?_) _ (.refl _)⟩
            obtain ⟨k, hk⟩ := tkOf_is.mpr ((BehP.node.mp q).1 h)
            rw [e] at hk; cases hk
          | some k =>
            have hat := strs_at (x := x) (hw k e)
            walk_at "on"
            exact ⟨_, _, by walk_at "subs", .refl _, _, rfl, rfl, (cnm_eq h rfl).symm, fun _ => tkOf_is.mp ⟨k, e⟩⟩
        · walk_at "on"
          exact ⟨_, _, by walk_at "subs", .refl _, _, rfl, rfl, (cnm_ne h).symm, fun q => absurd q h⟩
      rintro σ M1 ⟨lb, rfl, rfl, rfl, hu⟩
      walk_at "on"
      refine ald h0 fun l hl2 h0 => ?_
      walk_at "on"
      refine ⟨fun i σ M1 => ∃ (l' : Addr) (w7 w8 : Option PV), σ = [some (Tr.node m cs).pv, some (.str u), some (.str x), some (strsV ns), some (optN (tkOf u s)), some (.str (cnm x ns (tkOf u s) m)), some (.ref l'), w7, w8] ∧ (∀ (j : Nat) c, j < i → cs[j]? = some c → BehP u x c (s ++ [(m, j)])) ∧ Hd [] M M1 [(l', .lst ((cutTs u x ns (tkOf u s) m 0 (cs.take i)).map Tr.pv))], ⟨_, _, .refl _, .refl _, l, _, _, rfl, fun j c q => by omega, by rw [List.take_zero, cutTs_nil]; exact h0 _⟩, ?_, ?_, ?_⟩
      · intros; trivial
      · clear h0
        rintro i z σ M1 hz ⟨l', w7, w8, rfl, hi, h0⟩
        obtain ⟨z2, hz2, rfl⟩ := enP_get hz
        obtain ⟨c, hc2, rfl⟩ := kid_of hz2
        have hcm := List.mem_of_getElem? hc2
        have il := lt_of_get hc2
        have bi : BehP u x (.node m cs) s → BehP u x c (s ++ [(m, i)]) := fun q => (BehP.node.mp q).2 i c hc2
        have nx : BehP u x c (s ++ [(m, i)]) → ∀ (j : Nat) d, j < i + 1 → cs[j]? = some d → BehP u x d (s ++ [(m, j)]) := fun q j d hj hd => by
          by_cases e : j = i
          · subst e; rw [hc2] at hd; cases hd; exact q
          · exact hi j d (by omega) hd
        have tl : (cs.take i).length = i := by rw [List.length_take]; omega
        have cl := cutTs_len (u := u) (x := x) (n := m) (ns := ns) (tk := tkOf u s) (cs := cs.take i) (i := 0)
        have ek : tkOf u (s ++ [(m, i)]) = nk u m (tkOf u s) i := tkOf_snoc
        have eL : (cutTs u x ns (tkOf u s) m 0 (cs.take (i + 1))).map Tr.pv = (cutTs u x ns (tkOf u s) m 0 (cs.take i)).map Tr.pv ++ [(cutT u x ns (tkOf u (s ++ [(m, i)])) c).pv] := by
          rw [take_succ' hc2, cutTs_snoc, tl, Nat.zero_add, ek, List.map_append]; rfl
        walk_at "on"
        refine br_dec (fun h => ?_) (fun h => ?_)
        · walk_at "on"
          refine ⟨c, u, x, ns, s ++ [(m, i)], by rw [ek, nk, if_pos h], hc c hcm, ha.kid.2 c hcm, hw.kid ha hc2, hn, fun q => ?_, fun q M2 sb => ?_⟩
          · walk_at "on"
            refine ⟨_, h0.get 0 rfl, by rw [List.length_map, cl, sizeLine_eq]; omega, ?_⟩
            refine ⟨_, _, by walk_at "subs", .refl _, l', _, _, rfl, nx q, ?_⟩
            rw [eL]; exact h0.up0
          · exact k2 (fun z => q (bi z)) M2 (h0.sub.trans sb)
        · walk_at "on"
          refine ⟨c, u, x, ns, s ++ [(m, i)], by rw [ek, nk, if_neg h], hc c hcm, ha.kid.2 c hcm, hw.kid ha hc2, hn, fun q => ?_, fun q M2 sb => ?_⟩
          · walk_at "on"
            refine ⟨_, h0.get 0 rfl, by rw [List.length_map, cl, sizeLine_eq]; omega, ?_⟩
            refine ⟨_, _, by walk_at "subs", .refl _, l', _, _, rfl, nx q, ?_⟩
            rw [eL]; exact h0.up0
          · exact k2 (fun z => q (bi z)) M2 (h0.sub.trans sb)
      · clear h0
        rintro σ M1 ⟨l', w7, w8, rfl, hi, h0⟩
        rw [enP_len, pl] at hi
        rw [enP_len, pl, List.take_of_length_le (Nat.le_refl _)] at h0
        have b : BehP u x (.node m cs) s := BehP.node.mpr ⟨hu, fun i c hc2 => hi i c (lt_of_get hc2) hc2⟩
        have k1 := k1 b
        rw [cutT_node, node_pv] at k1
        walk_at "on"
        exact ⟨M, h0.sub, k1⟩
  
theorem nodup_pre {α : Type} : ∀ {l p : List α}, (∀ (j : Nat) n, l[j]? = some n → n ∉ p ++ l.take j) → p.Nodup → (p ++ l).Nodup
  | [], p, _, h => by rw [List.append_nil]; exact h
  | a :: r, p, h, hp => by
    have ha : a ∉ p := by have := h 0 a rfl; rwa [List.take_zero, List.append_nil] at this
    have := nodup_pre (l := r) (p := p ++ [a]) (fun j n hj => by
      have := h (j + 1) n (by simpa using hj)
      rwa [List.take_succ_cons, show p ++ a :: r.take j = (p ++ [a]) ++ r.take j by simp] at this) (by
      rw [List.nodup_append]
      exact ⟨hp, by simp, fun x hx y hy e => ha (by rw [List.mem_singleton.mp hy] at e; exact e ▸ hx)⟩)
    rwa [List.append_assoc] at this
theorem nodup_take {α : Type} {l : List α} : (∀ (j : Nat) n, l[j]? = some n → n ∉ l.take j) ↔ l.Nodup := by
  constructor
  · intro h
    exact nodup_pre (l := l) (p := []) (by simpa using h) List.nodup_nil
  · intro nd j n hj hm
    have hs : l = l.take j ++ n :: l.drop (j + 1) := by
      conv => lhs; rw [← List.take_append_drop j l, drop_at hj]
    rw [hs, List.nodup_append] at nd
    exact nd.2.2 n hm n List.mem_cons_self rfl
structure COk (rs : List Row) (t : Tr) (u x : Str) (ns : List Str) (ru r : Row) : Prop where
  fu : rs.find? (fun r => decide (r.nm = u)) = some ru
  fx : rs.find? (fun r => decide (r.nm = x)) = some r
  ne : u ≠ x
  ow : ru.ow = r.ow
  len : ns.length = ru.ws.length
  nd : ns.Nodup
  nw : ∀ n ∈ ns, n = x ∨ (nameB n = true ∧ n ∉ namesOf rs)
  beh : BehP u x t []
abbrev rowsN (ns : List Str) (o : Nat) (ws : List Int) : List Row := ns.map fun n => ⟨n, o, ws⟩
theorem rowsN_names {ns : List Str} {o : Nat} {ws : List Int} : namesOf (rowsN ns o ws) = ns := by
  rw [namesOf, List.map_map]
  conv => rhs; rw [← List.map_id ns]
  rfl
def sp_cut_up (K : Kf) : PSpec := fun vs M Q E => ∃ (rs : List Row) (t : Tr) (u x : Str) (ns : List Str), vs = [gameV rs t, .str u, .str x, strsV ns] ∧ RwOk rs ∧ rs.length ≤ 400 ∧ BT 9 t ∧ ns.length ≤ 400 ∧ (∀ n ∈ ns, n.length ≤ 1000) ∧ (∀ r ∈ rs, r.nm = u → AT u r.ws.length t) ∧
  (∀ ru r qs, COk rs t u x ns ru r → qs.Perm (offN rs x ++ rowsN ns r.ow r.ws) → SortedN qs → Q (gameV qs (cutT u x ns none t)) M) ∧
  ((¬ ∃ ru r, COk rs t u x ns ru r) → ∀ M', Sub M M' → E (BadS K) none M')
theorem sp_cut_up_len {K : Kf} {vs : List PV} {M : PHp} {Q : PVK} {E : PXK} (h : sp_cut_up K vs M Q E) : vs.length = 4 := by
  obtain ⟨_, _, _, _, _, rfl, _⟩ := h; rfl

theorem ok_cut_up {P : Program} {w : World} {K : Kf} {mg : Str → Option Value} {base : Heap} (h0 : Here K mg "cut_up" s_cut_up ["game", "upper", "name", "names"]) (T : Blt mg) (XC : Xc K mg) (Su : Sure P base) (C__cut_nodes : CalleeR (L2.CX P w) P w K mg base 43 "_cut_nodes" ["node", "upper", "name", "names", "taken"] (sp__cut_nodes K 9)) (C_is_new_name : Callee P w K mg base 35 "is_new_name" ["game", "name"] (sp_is_new_name K)) (C_row_of : Callee P w K mg base 34 "row_of" ["game", "name"] (sp_row_of K)) (C_with_row : Callee P w K mg base 34 "with_row" ["sets", "row"] (sp_with_row K)) (C_without_row : Callee P w K mg base 34 "without_row" ["sets", "name"] (sp_without_row K)) : CalleeR (L2.CX P w) P w K mg base 44 "cut_up" ["game", "upper", "name", "names"] (sp_cut_up K) := by
  refine okR_z h0 sc_cut_up (fun vs M Q E h => sp_cut_up_len h) (fun f cdv A outer s H E Ep hr air tk own => ⟨_, (psscons (psset 4 sc_cut_up.nd (pcall C_row_of (by exact hr.mono (by first | decide | omega)) (pacons (pv 0) (pacons (pv 1) panil))))
      (psscons (psset 5 sc_cut_up.nd (pcall C_row_of (by exact hr.mono (by first | decide | omega)) (pacons (pv 0) (pacons (pv 2) panil))))
      (psscons (psif (PW.pt (pwor (ptcmp opIsN (pv 4) pnon (nomark _)) (pwor (ptcmp opIsN (pv 5) pnon (nomark _)) (pwor (ptcmp (opEqK (K := K) (by exact hr.units)) (pv 1) (pv 2) (nomark _)) (pwor1 (ptcmp (opNeK (K := K) (by exact hr.units)) (pixK (K := K) (pv 4) pinT) (pixK (K := K) (pv 5) pinT) (nomark _))))))) (pssone (psraise air XC.o_BadStep)) pssnil)
      (psscons (psif (ptcmp (opNeK (K := K) (by exact hr.units)) (pcallB (cLenK (K := K)) (by rfl) T.b_len (by decide +kernel) (pacons (pv 3) panil)) (pcallB (cLenK (K := K)) (by rfl) T.b_len (by decide +kernel) (pacons (pixK (K := K) (pv 4) pinT) panil)) (nomark _)) (pssone (psraise air XC.o_BadStep)) pssnil)
      (psscons (psfor own rfl (pienumerate (by rfl) T.b_enumerate (pacons (pv 3) panil)) (pgtup rfl (pgscons (pgname (i := 6) sc_cut_up.nd) (pgscons (pgname (i := 7) sc_cut_up.nd) pgsnil))) (pssone (psifc (PW.pt (pwor (ptcmp (opIn (K := K)) (pv 7) (pslice (pv 3) ponone (posome (pv 6))) rfl) (pwor1 (PW.pt (pwand (ptcmp (opNeK (K := K) (by exact hr.units)) (pv 7) (pv 2) (nomark _)) (pwand1 (ptnot (ptval (pcall C_is_new_name (by exact hr.mono (by first | decide | omega)) (pacons (pv 0) (pacons (pv 7) panil))))))))))) (pssone (psraise air XC.o_BadStep)) pssnil)))
      (psscons (psset 8 sc_cut_up.nd (pcallR C__cut_nodes air (by exact hr.mono (by first | decide | omega)) (pacons (pixK (K := K) (pv 0) pinT) (pacons (pv 1) (pacons (pv 2) (pacons (pv 3) (pacons pnon panil)))))))
      (psscons (psset 9 sc_cut_up.nd (pcall C_without_row (by exact hr.mono (by first | decide | omega)) (pacons (pixK (K := K) (pv 0) pinT) (pacons (pv 2) panil))))
      (psscons (psfor own rfl (piseqK (K := K) (pv 3)) (pgname (i := 7) sc_cut_up.nd) (pssone (psset 9 sc_cut_up.nd (pcall C_with_row (by exact hr.mono (by first | decide | omega)) (pacons (pv 9) (pacons (ptup (pacons (pv 7) (pacons (pixK (K := K) (pv 5) pinT) (pacons (pixK (K := K) (pv 5) pinT) panil)))) panil))))))
      (pssone (psret (ptup (pacons (pv 9) (pacons (pv 8) panil))))))))))))), fun vs M Q h => ?_⟩)
  obtain ⟨rs, t, u, x, ns, rfl, ok, rle, hb, nle, nl, hat, k1, k2⟩ := h
  have nml : (ns.map PV.str).length = ns.length := List.length_map _
  walk_at "go"
  refine ⟨rs, t.pv, u, rfl, fun ru hru => ?_, fun hru => ?_⟩
  rotate_left
  · walk_at "on"
    refine ⟨rs, t.pv, x, rfl, fun r hr => ?_, fun hr => ?_⟩
    all_goals
      walk_at "on"
      exact ⟨_, .refl _, k2 (fun ⟨_, _, q⟩ => by rw [q.fu] at hru; cases hru) _ (.refl _)⟩
  have hum := List.mem_of_find?_eq_some hru
  have hun : ru.nm = u := by simpa using List.find?_some hru
  walk_at "on"
  refine ⟨rs, t.pv, x, rfl, fun r hr => ?_, fun hr => ?_⟩
  rotate_left
  · walk_at "on"
    exact ⟨_, .refl _, k2 (fun ⟨_, _, q⟩ => by rw [q.fx] at hr; cases hr) _ (.refl _)⟩
  have hrm := List.mem_of_find?_eq_some hr
  have hrn : r.nm = x := by simpa using List.find?_some hr
  have fr : ∀ {a b : Row}, COk rs t u x ns a b → a = ru ∧ b = r := fun q => ⟨Option.some.inj (q.fu.symm.trans hru), Option.some.inj (q.fx.symm.trans hr)⟩
  have uwl : (ru.ws.map PV.int).length = ru.ws.length := List.length_map _
  walk_at "on"
  refine br_dec (fun h => ?_) (fun hne => ?_)
  · walk_at "on"
    exact ⟨_, .refl _, k2 (fun ⟨_, _, q⟩ => q.ne h) _ (.refl _)⟩
  walk_at "on"
  refine br_ndec (fun how => ?_) (fun how => ?_)
  · walk_at "on"
    refine ⟨_, .refl _, k2 (fun ⟨_, _, q⟩ => ?_) _ (.refl _)⟩
    obtain ⟨rfl, rfl⟩ := fr q
    have := q.ow
    omega
  walk_at "on"
  refine br_ndec (fun hl => ?_) (fun hl => ?_)
  · walk_at "on"
    refine ⟨_, .refl _, k2 (fun ⟨_, _, q⟩ => ?_) _ (.refl _)⟩
    obtain ⟨rfl, rfl⟩ := fr q
    have := q.len
    rw [nml, uwl] at hl
    omega
  rw [nml, uwl] at hl
  walk_at "on"
  refine ⟨fun i σ M1 => ∃ w6 w7 : Option PV, σ = [some (gameV rs t), some (.str u), some (.str x), some (strsV ns), some ru.pv, some r.pv, w6, w7, none, none] ∧ M = M1 ∧ ∀ (j : Nat) n, j < i → ns[j]? = some n → n ∉ ns.take j ∧ (n = x ∨ (nameB n = true ∧ n ∉ namesOf rs)), ⟨_, _, by walk_at "subs", .refl _, _, _, rfl, rfl, fun j n q => by omega⟩, ?_, ?_, ?_⟩
  · intros; trivial
  · rintro i z σ M1 hz ⟨w6, w7, rfl, rfl, hi⟩
    obtain ⟨z2, hz2, rfl⟩ := enP_get hz
    obtain ⟨n, hn, rfl⟩ := str_at hz2
    walk_at "on"
    refine ⟨fun b M1 => M = M1 ∧ (b = true → n ∈ ns.take i ∨ ¬ (n = x ∨ (nameB n = true ∧ n ∉ namesOf rs))) ∧ (b = false → n ∉ ns.take i ∧ (n = x ∨ (nameB n = true ∧ n ∉ namesOf rs))), ?_, ?_⟩
    · walk_at "on"
      rw [cutL_map, cut_to]
      walk_at "on"
      refine br_dec (fun h => ?_) (fun h => ?_)
      · exact ⟨_, .refl _, rfl, fun _ => .inl h, fun q => by cases q⟩
      walk_at "on"
      refine br_ndec (fun h2 => ?_) (fun h2 => ?_)
      · walk_at "on"
        refine ⟨rs, t.pv, n, rfl, nl n (List.mem_of_getElem? hn), ?_⟩
        walk_at "on"
        refine ⟨_, .refl _, rfl, fun q => .inr fun z => ?_, fun q => ⟨h, .inr ?_⟩⟩
        · rcases z with z | z
          · exact h2 z
          · rw [z.1, decide_eq_true z.2] at q; cases q
        · simpa using q
      · exact ⟨_, .refl _, rfl, fun q => by (cases q), fun _ => ⟨h, .inl h2⟩⟩
    rintro b M1 ⟨rfl, b1, b2⟩
    refine br_of (fun h => ?_) (fun h => ?_)
    · walk_at "on"
      refine ⟨_, .refl _, k2 (fun ⟨_, _, q⟩ => ?_) _ (.refl _)⟩
      rcases b1 h with z | z
      · exact nodup_take.mpr q.nd i n hn z
      · exact z (q.nw n (List.mem_of_getElem? hn))
    walk_at "on"
    refine ⟨_, _, by walk_at "subs", .refl _, _, _, rfl, rfl, fun j n' hj hn' => ?_⟩
    by_cases e : j = i
    · subst e; rw [hn] at hn'; cases hn'; exact b2 h
    · exact hi j n' (by omega) hn'
  rintro σ M1 ⟨w6, w7, rfl, rfl, hi⟩
  rw [enP_len, nml] at hi
  have nd : ns.Nodup := nodup_take.mp fun j n hn => (hi j n (lt_of_get hn) hn).1
  have nw : ∀ n ∈ ns, n = x ∨ (nameB n = true ∧ n ∉ namesOf rs) := fun n hn => by
    obtain ⟨j, hj⟩ := List.getElem?_of_mem hn
    exact (hi j n (lt_of_get hj) hj).2
  clear hi
  have hau : AT u ns.length t := by have := hat ru hum hun; rwa [show ns.length = ru.ws.length by omega]
  walk_at "on"
  refine ⟨t, u, x, ns, [], rfl, hb, hau, fun k hk => by (cases hk), by omega, fun beh => ?_, fun nb M' sb => k2 (fun ⟨_, _, q⟩ => nb q.beh) M' sb⟩
  have C : COk rs t u x ns ru r := ⟨hru, hr, hne, by omega, by omega, nd, nw, beh⟩
  walk_at "on"
  refine ⟨rs, x, rfl, ok.le, ?_⟩
  have ol : (offN rs x).length ≤ rs.length := List.length_filter_le _ _
  have rl := ok.ls r hrm
  have nn : (namesOf (offN rs x ++ rowsN ns r.ow r.ws)).Nodup := by
    rw [namesOf, List.map_append]
    refine List.nodup_append.mpr ⟨ok.sn.nodup.sublist (List.filter_sublist.map _), by have := rowsN_names (ns := ns) (o := r.ow) (ws := r.ws); rw [namesOf] at this; rw [this]; exact nd, fun a ha b hb e => ?_⟩
    have hb : b ∈ ns := by have := rowsN_names (ns := ns) (o := r.ow) (ws := r.ws); rw [namesOf] at this; rwa [this] at hb
    obtain ⟨q, hq, rfl⟩ := List.mem_map.mp ha
    obtain ⟨q1, q2⟩ := offN_mem.mp hq
    rcases nw b hb with z | z
    · exact q2 (e.trans z)
    · exact z.2 (e ▸ List.mem_map_of_mem q1)
  walk_at "on"
  refine ⟨fun i σ M1 => ∃ (qs : List Row) (w7 : Option PV), σ = [some (gameV rs t), some (.str u), some (.str x), some (strsV ns), some ru.pv, some r.pv, none, w7, some (cutT u x ns none t).pv, some (rowsV qs)] ∧ M = M1 ∧ qs.Perm (offN rs x ++ rowsN (ns.take i) r.ow r.ws) ∧ SortedN qs, ⟨_, _, by walk_at "subs", .refl _, offN rs x, _, rfl, rfl, by simp, List.Pairwise.sublist List.filter_sublist ok.sn⟩, ?_, ?_, ?_⟩
  · intros; trivial
  · rintro i z σ M1 hz ⟨qs, w7, rfl, rfl, pm, sn⟩
    obtain ⟨n, hn, rfl⟩ := str_at hz
    have il := lt_of_get hn
    have e1 : offN rs x ++ rowsN (ns.take i) r.ow r.ws ++ [(⟨n, r.ow, r.ws⟩ : Row)] = offN rs x ++ rowsN (ns.take (i + 1)) r.ow r.ws := by
      rw [take_succ' hn, rowsN, rowsN, List.map_append, List.append_assoc]; rfl
    have pm2 : (qs ++ [(⟨n, r.ow, r.ws⟩ : Row)]).Perm (offN rs x ++ rowsN (ns.take (i + 1)) r.ow r.ws) := e1 ▸ pm.append_right _
    have tl : (ns.take i).length = i := by rw [List.length_take]; omega
    walk_at "on"
    refine ⟨qs, ⟨n, r.ow, r.ws⟩, rfl, by rw [pm.length_eq, List.length_append, List.length_map, tl]; omega, fun q hq => ?_, ?_, fun us pm3 sn3 => ?_⟩
    · have hq := pm2.mem_iff.mp hq
      rcases List.mem_append.mp hq with q1 | q1
      · exact ok.ls q (offN_sub q1)
      · obtain ⟨_, _, rfl⟩ := List.mem_map.mp q1; exact rl
    · have s1 : (offN rs x ++ rowsN (ns.take (i + 1)) r.ow r.ws).Sublist (offN rs x ++ rowsN ns r.ow r.ws) := (List.Sublist.refl _).append ((List.take_sublist _ _).map _)
      exact (pm2.map Row.nm).nodup_iff.mpr (nn.sublist (s1.map _))
    walk_at "on"
    exact ⟨_, _, by walk_at "subs", .refl _, us, _, rfl, rfl, pm3.trans pm2, sn3⟩
  rintro σ M1 ⟨qs, w7, rfl, rfl, pm, sn⟩
  rw [nml, List.take_of_length_le (Nat.le_refl _)] at pm
  walk_at "on"
  exact ⟨_, .refl _, k1 ru r qs C pm sn⟩

theorem find_some {rs : List Row} {x : Str} (h : x ∈ namesOf rs) : ∃ r, rs.find? (fun r => decide (r.nm = x)) = some r ∧ r ∈ rs ∧ r.nm = x := by
  cases e : rs.find? (fun r => decide (r.nm = x)) with
  | none => exact absurd h (find_nin e)
  | some r => exact ⟨r, rfl, List.mem_of_find?_eq_some e, by have := List.find?_some e; exact of_decide_eq_true this⟩
theorem find_of {rs : List Row} (nd : (namesOf rs).Nodup) {r : Row} {x : Str} (h : r ∈ rs) (e : r.nm = x) : rs.find? (fun r => decide (r.nm = x)) = some r := by
  subst e; exact find_row nd h
theorem off_none {rs : List Row} {x : Str} (h : x ∉ namesOf rs) : offN rs x = rs := List.filter_eq_self.mpr fun r hr => by
  have : r.nm ≠ x := fun e => h (e ▸ List.mem_map_of_mem hr)
  simp [this]
theorem off_app {rs qs : List Row} {x : Str} : offN (rs ++ qs) x = offN rs x ++ offN qs x := List.filter_append ..
theorem off_perm {rs qs : List Row} {x : Str} (h : rs.Perm qs) : (offN rs x).Perm (offN qs x) := h.filter _
theorem off_sorted {rs : List Row} {x : Str} (h : SortedN rs) : SortedN (offN rs x) := List.Pairwise.sublist List.filter_sublist h
theorem off_nin {rs : List Row} {x : Str} : x ∉ namesOf (offN rs x) := fun h => by
  obtain ⟨r, hr, e⟩ := List.mem_map.mp h
  exact (offN_mem.mp hr).2 e
theorem row_split {rs : List Row} (nd : (namesOf rs).Nodup) {r : Row} (h : r ∈ rs) : rs.Perm (offN rs r.nm ++ [r]) := by
  induction rs with
  | nil => cases h
  | cons a l ih =>
    have nd2 := List.nodup_cons.mp (show (a.nm :: namesOf l).Nodup from nd)
    rcases List.mem_cons.mp h with rfl | h
    · have e : offN (r :: l) r.nm = l := by
        rw [offN, List.filter_cons_of_neg (by simp)]
        exact off_none nd2.1
      rw [e]
      exact (List.perm_append_comm (l₁ := [r]) (l₂ := l))
    · have ne : a.nm ≠ r.nm := fun e => nd2.1 (e ▸ List.mem_map_of_mem h)
      rw [offN, List.filter_cons_of_pos (by simp [ne])]
      exact (ih nd2.2 h).cons a

/-! what a step answers: the only game that it leads to, or None -/
abbrev optR2 : Option (List Row × Tr) → PV
  | none => .non
  | some g => gameV g.1 g.2
def Ans (R : List Row → Tr → Prop) (o : Option (List Row × Tr)) : Prop := match o with
  | some g => R g.1 g.2
  | none => ∀ qs t', ¬ R qs t'
theorem Ans.ex (R : List Row → Tr → Prop) : ∃ o, Ans R o := by
  by_cases h : ∃ qs t', R qs t'
  · obtain ⟨qs, t', h⟩ := h
    exact ⟨some (qs, t'), h⟩
  · exact ⟨none, fun qs t' q => h ⟨qs, t', q⟩⟩
theorem Ans.no {R : List Row → Tr → Prop} {o : Option (List Row × Tr)} (h : Ans R o) (n : ∀ qs t', ¬ R qs t') : o = none := by
  cases o with
  | none => rfl
  | some g => exact absurd h (n g.1 g.2)
theorem Ans.yes {R : List Row → Tr → Prop} {o : Option (List Row × Tr)} {qs : List Row} {t' : Tr} (h : Ans R o) (f : ∀ {a b c d}, R a b → R c d → a = c ∧ b = d) (r : R qs t') : o = some (qs, t') := by
  cases o with
  | none => exact absurd r (h qs t')
  | some g => obtain ⟨h1, h2⟩ := f h r; rw [← h1, ← h2]

theorem PureD.optR2 {o : Option (List Row × Tr)} (h : ∀ g, o = some g → RwOk g.1 ∧ TxtD 19 g.2.pv) : PureD 20 (optR2 o) := by
  cases o with
  | none => exact .non
  | some g =>
    obtain ⟨h1, h2⟩ := h g rfl
    refine .tup (by show 2 ≤ 16777216; decide) fun x hx => ?_
    rcases List.mem_cons.mp hx with rfl | hx
    · refine .tup (by rw [List.length_map]; have := h1.le; omega) fun y hy => ?_
      obtain ⟨r, hr, rfl⟩ := List.mem_map.mp hy
      exact row_pure r (by have := h1.ls r hr; omega)
    · rw [List.mem_singleton.mp hx]
      exact h2.pure
theorem BT.txt : ∀ {n : Nat} {t : Tr}, BT n t → TxtD (2 * n + 1) t.pv
  | n + 1, _, .leaf => .str _
  | n + 1, _, .node (x := x) (cs := cs) hl hc => by
    rw [show 2 * (n + 1) + 1 = (2 * n + 1) + 1 + 1 by omega, node_pv]
    refine .tup (by show 2 ≤ 16777216; decide) fun y hy => ?_
    rcases List.mem_cons.mp hy with rfl | hy
    · exact .str _
    · rw [List.mem_singleton.mp hy]
      refine .tup (by rw [List.length_map]; omega) fun z hz => ?_
      obtain ⟨c, hcm, rfl⟩ := List.mem_map.mp hz
      exact BT.txt (hc c hcm)
inductive CStep where
  | cut (u x : Str) (ns : List Str)
def CStep.pv : CStep → PV
  | .cut u x ns => .tup [.str "cut", .str u, .str x, strsV ns]
def CR (rs : List Row) (t : Tr) : CStep → List Row → Tr → Prop
  | .cut u x ns, qs, t' => ∃ ru r, COk rs t u x ns ru r ∧ qs.Perm (offN rs x ++ rowsN ns r.ow r.ws) ∧ SortedN qs ∧ t' = cutT u x ns none t
theorem CR.fnl {rs : List Row} {t : Tr} {st : CStep} {qs qs' : List Row} {t1 t2 : Tr} (h : CR rs t st qs t1) (h' : CR rs t st qs' t2) : qs = qs' ∧ t1 = t2 := by
  cases st with
  | cut u x ns =>
    obtain ⟨ru, r, c, p, s, rfl⟩ := h
    obtain ⟨ru', r', c', p', s', rfl⟩ := h'
    have e2 := Option.some.inj (c.fx.symm.trans c'.fx)
    subst e2
    exact ⟨SortedN.eq (p.trans p'.symm) s s', rfl⟩

/-- rows that a law's game has -/
structure CRow (r : Row) : Prop where
  nm : nameB r.nm = true
  ow : r.ow ≤ 2
  l1 : 1 ≤ r.ws.length
  l3 : r.ws.length ≤ 4
  ws : ∀ w ∈ r.ws, 1 ≤ w
structure CG (us : List Str) (rs : List Row) (t : Tr) : Prop where
  tok : TOk us rs t
  sn : SortedN rs
  rw : ∀ r ∈ rs, CRow r
  le : rs.length ≤ 19
  bt : BT 9 t
  sz : szT t ≤ 16384
theorem nameB_len {x : Str} (h : nameB x = true) : x.length ≤ 1000 := by
  rw [nameB_eq, Bool.and_eq_true] at h
  have h := h.1
  rw [headB, Bool.and_eq_true] at h
  have := of_decide_eq_true h.1
  omega
theorem CG.ok {us : List Str} {rs : List Row} {t : Tr} (g : CG us rs t) : RwOk rs := ⟨g.sn, fun r hr => by have := (g.rw r hr).l3; omega, by have := g.le; omega⟩
theorem CG.ar {us : List Str} {rs : List Row} {t : Tr} (g : CG us rs t) : ∀ r ∈ rs, AT r.nm r.ws.length t := fun r hr => g.tok.at_ g.sn.nodup fun q hq e => by rw [row_eq g.sn.nodup hq hr e]
theorem CG.nm {us : List Str} {rs : List Row} {t : Tr} (g : CG us rs t) : ∀ n ∈ nmT t, n ∈ namesOf rs := fun n hn => by
  obtain ⟨r, hr, e⟩ := g.tok.names n hn
  exact e ▸ List.mem_map_of_mem hr

theorem pow_step (W k : Nat) : 1 + W * (W + 1) ^ k ≤ (W + 1) ^ (k + 1) := by
  have : 1 ≤ (W + 1) ^ k := Nat.one_le_pow _ _ (by omega)
  rw [Nat.pow_succ, Nat.mul_comm ((W + 1) ^ k), Nat.succ_mul]; omega
theorem TOk.size2 {us : List Str} {W : Nat} : ∀ {k : Nat} {rs : List Row} {t : Tr}, TOk us rs t → (∀ r ∈ rs, r.ws.length ≤ W) → rs.length ≤ k → szT t ≤ (W + 1) ^ k
  | k, rs, _, .leaf _, _, _ => by unfold szT; exact Nat.one_le_pow _ _ (by omega)
  | 0, rs, _, .node hr _ _, _, h => by have := List.length_pos_of_mem hr; omega
  | k + 1, rs, _, .node (r := r) (cs := cs) hr hl hc, h2, h => by
    have less := offN_len hr
    have h3 := szTs_le (m := (W + 1) ^ k) (cs := cs) fun c hcm => TOk.size2 (hc c hcm) (fun q hq => h2 q (offN_sub hq)) (by omega)
    have h4 := h2 r hr
    unfold szT
    have : cs.length * (W + 1) ^ k ≤ W * (W + 1) ^ k := Nat.mul_le_mul_right _ (by omega)
    have := pow_step W k
    omega

theorem at_cut {u x : Str} {ns : List Str} {w : Nat} (hu : u ∉ ns) (hux : u ≠ x) {t : Tr} (h : AT u w t) : ∀ {tk : Option Nat}, AT u w (cutT u x ns tk t) := by
  induction h with
  | leaf => intro tk; rw [cutT_leaf]; exact .leaf
  | @node n cs a1 a2 ih =>
    intro tk
    rw [cutT_node]
    refine .node (fun e => ?_) fun d hd => ?_
    · rw [cutTs_len]
      by_cases q : n = x
      · exfalso
        cases tk with
        | none =>
          rw [show cnm x ns none n = x by show (if n = x then x else n) = x; rw [if_pos q]] at e
          exact hux e.symm
        | some k =>
          rw [cnm_eq q rfl] at e
          by_cases hk : k < ns.length
          · rw [getD_at (List.getElem?_eq_getElem hk)] at e
            exact hu (e ▸ List.getElem_mem hk)
          · rw [List.getD_eq_getElem?_getD, List.getElem?_eq_none (by omega)] at e
            exact hux e.symm
      · rw [cnm_ne q] at e
        exact a1 e
    · obtain ⟨i, c, hc, rfl⟩ := cut_mem hd
      exact ih c (List.mem_of_getElem? hc)

/-- behind a cut -/
theorem TOk.cut {us : List Str} {u x : Str} {ns : List Str} (hu : u ∉ ns) (hux : u ≠ x) {rs : List Row} {t : Tr} (h : TOk us rs t) : ∀ {s : Prs} {qs : List Row}, (∀ r ∈ rs, r.nm ≠ x → r ∈ qs) → (∀ r ∈ rs, r.nm = x → ∀ n ∈ ns, ∃ r2 ∈ qs, r2.nm = n ∧ r2.ws.length = r.ws.length) → (∀ n ∈ ns, n = x ∨ n ∉ namesOf rs) → AT u ns.length t → InW u ns.length s → BehP u x t s → TOk us qs (cutT u x ns (tkOf u s) t) := by
  induction h with
  | leaf hx => intro s qs _ _ _ _ _ _; rw [cutT_leaf]; exact .leaf hx
  | @node rs r cs hr hl hc ih =>
    intro s qs h1 h2 h3 ha hw hb
    obtain ⟨b1, b2⟩ := BehP.node.mp hb
    rw [cutT_node]
    obtain ⟨r2, hr2, e2, l2, hoff⟩ : ∃ r2 ∈ qs, r2.nm = cnm x ns (tkOf u s) r.nm ∧ r2.ws.length = r.ws.length ∧ ∀ r' ∈ offN rs r.nm, r'.nm ≠ x → r'.nm ≠ r2.nm := by
      by_cases e : r.nm = x
      · obtain ⟨k, hk⟩ := tkOf_is.mpr (b1 e)
        have hkl := hw k hk
        have hm : ns.getD k x ∈ ns := by rw [getD_at (List.getElem?_eq_getElem hkl)]; exact List.getElem_mem hkl
        obtain ⟨r2, g1, g2, g3⟩ := h2 r hr e _ hm
        rw [cnm_eq e hk]
        refine ⟨r2, g1, g2, g3, fun r' hr' n q => ?_⟩
        rw [g2] at q
        rcases h3 _ hm with z | z
        · exact n (q.trans z)
        · exact z (q ▸ List.mem_map_of_mem (offN_sub hr'))
      · rw [cnm_ne e]
        exact ⟨r, h1 r hr e, rfl, rfl, fun r' hr' _ => (offN_mem.mp hr').2⟩
    rw [← e2]
    refine .node hr2 (by rw [cutTs_len, l2]; exact hl) fun d hd => ?_
    obtain ⟨i, c, hci, rfl⟩ := cut_mem hd
    have hcm := List.mem_of_getElem? hci
    rw [nk_of]
    refine ih c hcm (fun r' hr' n => ?_) (fun r' hr' e' n hn => ?_) (fun n hn => (h3 n hn).imp id fun z q => z ((List.filter_sublist.map Row.nm).subset q)) (ha.kid.2 c hcm) (hw.kid ha hci) (b2 i c hci)
    · exact offN_mem.mpr ⟨h1 r' (offN_sub hr') n, hoff r' hr' n⟩
    · obtain ⟨g1, g2⟩ := offN_mem.mp hr'
      obtain ⟨q, q1, q2, q3⟩ := h2 r' g1 e' n hn
      refine ⟨q, offN_mem.mpr ⟨q1, fun z => ?_⟩, q2, q3⟩
      have hrx : r.nm ≠ x := fun y => g2 (e'.trans y.symm)
      rw [cnm_ne hrx] at e2
      rw [e2] at z
      rcases h3 n hn with y | y
      · exact hrx (z.symm.trans (q2.trans y))
      · exact y (by rw [← q2, z]; exact List.mem_map_of_mem hr)

def sp__law_cut (K : Kf) (n : Nat) : PSpec := fun vs M Q _ => ∃ (t : Tr) (u x : Str) (ns : List Str) (s : Prs) (k : Nat), vs = [t.pv, .str u, .str x, strsV ns, .int (k : Int)] ∧ BT n t ∧ AT u ns.length t ∧ (∀ k', tkOf u s = some k' → k' = k) ∧ k < ns.length ∧ ns.length ≤ 1000 ∧ BehP u x t s ∧ Q (cutT u x ns (tkOf u s) t).pv M
theorem sp__law_cut_len {K : Kf} {n : Nat} {vs : List PV} {M : PHp} {Q : PVK} {E : PXK} (h : sp__law_cut K n vs M Q E) : vs.length = 5 := by
  obtain ⟨_, _, _, _, _, _, rfl, _⟩ := h; rfl
theorem sp__law_cut_zero {K : Kf} {vs : List PV} {M : PHp} {Q : PVK} {E : PXK} (h : sp__law_cut K 0 vs M Q E) : False := by
  obtain ⟨_, _, _, _, _, _, rfl, h, _⟩ := h; cases h

theorem ok__law_cut {P : Program} {w : World} {K : Kf} {mg : Str → Option Value} {base : Heap} (h0 : Here K mg "_law_cut" s__law_cut ["tree", "upper", "name", "names", "move"]) (T : Blt mg) (XC : Xc K mg) (Su : Sure P base)  : ∀ n : Nat, Callee P w K mg base (34 + n) "_law_cut" ["tree", "upper", "name", "names", "move"] (sp__law_cut K n)
  | 0 => (Callee.never (k := 33) h0 sc__law_cut).imp fun _ _ _ _ h => (sp__law_cut_zero h).elim
  | n + 1 => by
    have C__law_cut := ok__law_cut (P := P) (w := w) (base := base) h0 T XC Su  n
    refine ok_of (k := 34 + n) h0 sc__law_cut (fun vs M Q E h => sp__law_cut_len h) (fun f cdv A outer s H E hr => ⟨_, (psscons (psif (ptval (pcallB (cIsiK (K := K)) (by rfl) T.b_isinstance (by decide +kernel) (pacons (pv 0) (pacons (pbltn (p := .ty "str") (v := .ty "str") (by rfl) T.b_str (by decide +kernel) rfl (fun _ => .ty _)) panil)))) (pssone (psret (pv 0))) pssnil)
      (psscons (psset 5 sc__law_cut.nd (plst panil))
      (psscons (psfor PassesOwn.never rfl (pirng1 (by rfl) T.b_range (pacons (pcallB (cLenK (K := K)) (by rfl) T.b_len (by decide +kernel) (pacons (pixK (K := K) (pv 0) pinT) panil)) panil)) (pgname (i := 6) sc__law_cut.nd) (psscons (psset 7 sc__law_cut.nd (pv 4))
      (psscons (psif (ptcmp (opEqK (K := K) (by exact hr.units)) (pixK (K := K) (pv 0) pinT) (pv 1) (nomark _)) (pssone (psset 7 sc__law_cut.nd (pv 6))) pssnil)
      (pssone (psexpr (pbmK (K := K) PySem.F.plainAttrs_list PySem.F.slot_list_append PySem.F.type_list_append mAppend (pv 5) (pacons (pcall C__law_cut (by exact hr.mono (by first | decide | omega)) (pacons (pixK (K := K) (pixK (K := K) (pv 0) pinT) (pv 6)) (pacons (pv 1) (pacons (pv 2) (pacons (pv 3) (pacons (pv 7) panil)))))) panil)))))))
      (psscons (psif (ptcmp (opEqK (K := K) (by exact hr.units)) (pixK (K := K) (pv 0) pinT) (pv 2) (nomark _)) (pssone (psret (ptup (pacons (pixK (K := K) (pv 3) (pv 4)) (pacons (pcallTy (cTupleK (K := K)) (by rfl) T.b_tuple (by decide +kernel) (pacons (pv 5) panil)) panil))))) pssnil)
      (pssone (psret (ptup (pacons (pixK (K := K) (pv 0) pinT) (pacons (pcallTy (cTupleK (K := K)) (by rfl) T.b_tuple (by decide +kernel) (pacons (pv 5) panil)) panil))))))))), fun vs M Q Ep h => ?_⟩)
    obtain ⟨t, u, x, ns, s, k, rfl, hb, ha, hk, kl, hn, beh, k1⟩ := h
    cases hb with
    | leaf =>
      rw [cutT_leaf] at k1
      walk_at "go"
      exact ⟨_, .refl _, k1⟩
    | @node _ m cs hl hc =>
      have pl : (Tr.pvs cs).length = cs.length := pvs_len
      have h0 : Hd [] M M [] := .start
      obtain ⟨b1, b2⟩ := BehP.node.mp beh
      walk_at "go"
      refine ald h0 fun l hl2 h0 => ?_
      walk_at "on"
      refine ⟨by omega, ?_⟩
      refine ⟨fun i σ M1 => ∃ (w6 w7 : Option PV), σ = [some (Tr.node m cs).pv, some (.str u), some (.str x), some (strsV ns), some (.int (k : Int)), some (.ref l), w6, w7] ∧ Hd [] M M1 [(l, .lst ((cutTs u x ns (tkOf u s) m 0 (cs.take i)).map Tr.pv))], ⟨_, _, .refl _, .refl _, _, _, rfl, by rw [List.take_zero, cutTs_nil]; exact h0 _⟩, ?_, ?_, ?_⟩
      · intros; trivial
      · clear h0
        rintro i z σ M1 hz ⟨w6, w7, rfl, h0⟩
        obtain ⟨hi, rfl⟩ := rng_get hz
        rw [pl, Int.toNat_natCast] at hi
        rw [show (0 : Int) + (i : Int) = (i : Int) by omega]
        obtain ⟨c, hc2, hci⟩ := kid_at (cs := cs) (m := (i : Int)) (by omega) (by omega)
        rw [Int.toNat_natCast] at hc2
        have hcm := List.mem_of_getElem? hc2
        have tl : (cs.take i).length = i := by rw [List.length_take]; omega
        have cl := cutTs_len (u := u) (x := x) (n := m) (ns := ns) (tk := tkOf u s) (cs := cs.take i) (i := 0)
        have ek : tkOf u (s ++ [(m, i)]) = nk u m (tkOf u s) i := tkOf_snoc
        have eL : (cutTs u x ns (tkOf u s) m 0 (cs.take (i + 1))).map Tr.pv = (cutTs u x ns (tkOf u s) m 0 (cs.take i)).map Tr.pv ++ [(cutT u x ns (tkOf u (s ++ [(m, i)])) c).pv] := by
          rw [take_succ' hc2, cutTs_snoc, tl, Nat.zero_add, ek, List.map_append]; rfl
        walk_at "on"
        refine br_dec (fun h => ?_) (fun h => ?_)
        · have hw := ha.kid.1 h
          walk_at "on"
          refine ⟨c, u, x, ns, s ++ [(m, i)], i, rfl, hc c hcm, ha.kid.2 c hcm, fun k' hk' => by rw [ek, nk, if_pos h] at hk'; exact (Option.some.inj hk').symm, by omega, hn, b2 i c hc2, ?_⟩
          walk_at "on"
          refine ⟨_, h0.get 0 rfl, by rw [List.length_map, cl, sizeLine_eq]; omega, ?_⟩
          refine ⟨_, _, by walk_at "subs", .refl _, _, _, rfl, ?_⟩
          rw [eL]; exact h0.up0
        · walk_at "on"
          refine ⟨c, u, x, ns, s ++ [(m, i)], k, rfl, hc c hcm, ha.kid.2 c hcm, fun k' hk' => by rw [ek, nk, if_neg h] at hk'; exact hk k' hk', kl, hn, b2 i c hc2, ?_⟩
          walk_at "on"
          refine ⟨_, h0.get 0 rfl, by rw [List.length_map, cl, sizeLine_eq]; omega, ?_⟩
          refine ⟨_, _, by walk_at "subs", .refl _, _, _, rfl, ?_⟩
          rw [eL]; exact h0.up0
      · clear h0
        rintro σ M1 ⟨w6, w7, rfl, h0⟩
        rw [rng_len, pl, Int.toNat_natCast, List.take_of_length_le (Nat.le_refl _)] at h0
        rw [cutT_node, node_pv] at k1
        have hat := strs_at (x := x) kl
        walk_at "on"
        refine br_dec (fun h => ?_) (fun h => ?_)
        · obtain ⟨k', hk'⟩ := tkOf_is.mpr (b1 h)
          have e := hk k' hk'
          subst e
          rw [cnm_eq h hk'] at k1
          walk_at "on"
          exact ⟨M, h0.sub, k1⟩
        · rw [cnm_ne h] at k1
          walk_at "on"
          exact ⟨M, h0.sub, k1⟩
  
theorem nodup_len {α : Type} [BEq α] [LawfulBEq α] : ∀ {l us : List α}, l.Nodup → (∀ x ∈ l, x ∈ us) → l.length ≤ us.length
  | [], _, _, _ => Nat.zero_le _
  | x :: l, us, nd, h => by
    obtain ⟨h1, h2⟩ := List.nodup_cons.mp nd
    have := nodup_len (l := l) (us := us.erase x) h2 fun y hy => (List.mem_erase_of_ne (fun e : y = x => h1 (e ▸ hy))).mpr (h y (List.mem_cons_of_mem _ hy))
    rw [List.length_erase_of_mem (h x List.mem_cons_self)] at this
    have := List.length_pos_of_mem (h x List.mem_cons_self)
    rw [List.length_cons]; omega
theorem nodesP_in : ∀ {n : Nat} {t : Tr} {s : Prs}, BT n t → ∀ e ∈ nodesP t s, ∀ m ∈ pns e.2, m ∈ pns s ∨ m ∈ nmT t
  | n + 1, _, s, .leaf, e, he => by rw [nodesP_leaf] at he; cases he
  | n + 1, _, s, .node (x := k) (cs := cs) hl hc, e, he => by
    revert e
    rw [allP_node]
    refine ⟨fun m hm => .inl hm, fun i c hci e he m hm => ?_⟩
    have hcm := List.mem_of_getElem? hci
    rcases nodesP_in (hc c hcm) e he m hm with h | h
    · rw [pns, List.map_append, List.mem_append] at h
      rcases h with h | h
      · exact .inl h
      · exact .inr (nmT_node.mpr (.inl (by simpa using h)))
    · exact .inr (nmT_node.mpr (.inr ⟨c, hcm, h⟩))
theorem pq_at {s : Prs} {i : Nat} {z : PV} (h : (s.map pq)[i]? = some z) : ∃ q, s[i]? = some q ∧ z = pq q := by
  rw [List.getElem?_map] at h
  cases e : s[i]? with
  | none => rw [e] at h; cases h
  | some u => rw [e] at h; exact ⟨u, rfl, (Option.some.inj h).symm⟩
theorem pq_inj : ∀ {a b : Prs}, a.map pq = b.map pq → a = b
  | [], [], _ => rfl
  | [], _ :: _, h => by cases h
  | _ :: _, [], h => by cases h
  | x :: a, y :: b, h => by
    have h1 : pq x = pq y ∧ a.map pq = b.map pq := by simpa using h
    have h2 : x.1 = y.1 ∧ (x.2 : Int) = (y.2 : Int) := by simpa using h1.1
    rw [pq_inj h1.2, Prod.ext h2.1 (by omega)]
theorem COk.names {rs : List Row} {t : Tr} {u x : Str} {ns : List Str} {ru r : Row} (c : COk rs t u x ns ru r) (ok : RwOk rs) : (namesOf (offN rs x ++ rowsN ns r.ow r.ws)).Nodup := by
  have e := rowsN_names (ns := ns) (o := r.ow) (ws := r.ws)
  rw [namesOf] at e
  rw [namesOf, List.map_append, e]
  refine List.nodup_append.mpr ⟨ok.sn.nodup.sublist (List.filter_sublist.map _), c.nd, fun a ha b hb e => ?_⟩
  obtain ⟨q, hq, rfl⟩ := List.mem_map.mp ha
  obtain ⟨q1, q2⟩ := offN_mem.mp hq
  rcases c.nw b hb with z | z
  · exact q2 (e.trans z)
  · exact z.2 (e ▸ List.mem_map_of_mem q1)
def sp__law_cut_step (K : Kf) : PSpec := fun vs M Q _ => ∃ (us : List Str) (rs : List Row) (t : Tr) (u x : Str) (ns : List Str) (o : Option (List Row × Tr)), vs = [gameV rs t, (CStep.cut u x ns).pv] ∧ CG us rs t ∧ ns.length ≤ 400 ∧ (∀ n ∈ ns, n.length ≤ 1000) ∧ Ans (CR rs t (.cut u x ns)) o ∧ Q (optR2 o) M
theorem sp__law_cut_step_len {K : Kf} {vs : List PV} {M : PHp} {Q : PVK} {E : PXK} (h : sp__law_cut_step K vs M Q E) : vs.length = 2 := by
  obtain ⟨_, _, _, _, _, _, _, rfl, _⟩ := h; rfl

theorem ok__law_cut_step {P : Program} {w : World} {K : Kf} {mg : Str → Option Value} {base : Heap} (h0 : Here K mg "_law_cut_step" s__law_cut_step ["game", "step"]) (T : Blt mg) (XC : Xc K mg) (Su : Sure P base) (C__law_cut : Callee P w K mg base 43 "_law_cut" ["tree", "upper", "name", "names", "move"] (sp__law_cut K 9)) (C__law_is_new : Callee P w K mg base 35 "_law_is_new" ["rows", "name"] (sp__law_is_new K)) (C__law_nodes : Callee P w K mg base 43 "_law_nodes" ["tree", "path", "pairs"] (sp__law_nodes K 9)) (C__law_row : Callee P w K mg base 34 "_law_row" ["rows", "name"] (sp__law_row K)) : Callee P w K mg base 44 "_law_cut_step" ["game", "step"] (sp__law_cut_step K) := by
  refine ok_of h0 sc__law_cut_step (fun vs M Q E h => sp__law_cut_step_len h) (fun f cdv A outer s H E hr => ⟨_, (psscons (psasg (pv 0) (pgtup rfl (pgscons (pgname (i := 2) sc__law_cut_step.nd) (pgscons (pgname (i := 3) sc__law_cut_step.nd) pgsnil))))
      (psscons (psset 4 sc__law_cut_step.nd (pcall C__law_row (by exact hr.mono (by first | decide | omega)) (pacons (pv 2) (pacons (pixK (K := K) (pv 1) pinT) panil))))
      (psscons (psset 5 sc__law_cut_step.nd (pcall C__law_row (by exact hr.mono (by first | decide | omega)) (pacons (pv 2) (pacons (pixK (K := K) (pv 1) pinT) panil))))
      (psscons (psset 6 sc__law_cut_step.nd (pixK (K := K) (pv 1) pinT))
      (psscons (psif (PW.pt (pwor (ptcmp opIsN (pv 4) pnon (nomark _)) (pwor (ptcmp opIsN (pv 5) pnon (nomark _)) (pwor (ptcmp (opEqK (K := K) (by exact hr.units)) (pixK (K := K) (pv 4) pinT) (pixK (K := K) (pv 5) pinT) (nomark _)) (pwor (ptcmp (opNeK (K := K) (by exact hr.units)) (pixK (K := K) (pv 4) pinT) (pixK (K := K) (pv 5) pinT) (nomark _)) (pwor1 (ptcmp (opNeK (K := K) (by exact hr.units)) (pcallB (cLenK (K := K)) (by rfl) T.b_len (by decide +kernel) (pacons (pv 6) panil)) (pcallB (cLenK (K := K)) (by rfl) T.b_len (by decide +kernel) (pacons (pixK (K := K) (pv 4) pinT) panil)) (nomark _)))))))) (pssone (psret pnon)) pssnil)
      (psscons (psfor PassesOwn.never rfl (pirng1 (by rfl) T.b_range (pacons (pcallB (cLenK (K := K)) (by rfl) T.b_len (by decide +kernel) (pacons (pv 6) panil)) panil)) (pgname (i := 7) sc__law_cut_step.nd) (pssone (psifc (PW.pt (pwor (ptcmp (opIn (K := K)) (pixK (K := K) (pv 6) (pv 7)) (pslice (pv 6) ponone (posome (pv 7))) rfl) (pwor1 (PW.pt (pwand (ptcmp (opNeK (K := K) (by exact hr.units)) (pixK (K := K) (pv 6) (pv 7)) (pixK (K := K) (pv 5) pinT) (nomark _)) (pwand1 (ptnot (ptval (pcall C__law_is_new (by exact hr.mono (by first | decide | omega)) (pacons (pv 2) (pacons (pixK (K := K) (pv 6) (pv 7)) panil))))))))))) (pssone (psret pnon)) pssnil)))
      (psscons (psfor PassesOwn.never rfl (piseqK (K := K) (pcall C__law_nodes (by exact hr.mono (by first | decide | omega)) (pacons (pv 3) (pacons (ptup panil) (pacons (ptup panil) panil))))) (pgtup rfl (pgscons (pgname (i := 8) sc__law_cut_step.nd) (pgscons (pgname (i := 9) sc__law_cut_step.nd) (pgscons (pgname (i := 10) sc__law_cut_step.nd) pgsnil)))) (pssone (psifc (PW.pt (pwand (ptcmp (opEqK (K := K) (by exact hr.units)) (pixK (K := K) (pv 9) pinT) (pixK (K := K) (pv 5) pinT) (nomark _)) (pwand1 (ptcmp (opNotIn (K := K)) (pixK (K := K) (pv 4) pinT) (plcP  rfl sc__law_cut_step.nd (piseqK (K := K) (pv 10)) (blkOk_by (own := [("pair", 13)]) (N := ["game", "step", "rows", "tree", "upper", "row", "names", "k", "path", "node", "pairs", "rest", "new", "pair", "other", "name"]) (sc := defScope s__law_cut_step) (by decide +kernel)) (tgName (by decide)) (fun _ _ _ _ _ => (pg_name (i := 13) sc__law_cut_step.nd rfl (by first | exact Or.inl rfl | exact Or.inr rfl))) (fun _ _ _ _ _ => (pixK (K := K) (pv 13) pinT))) rfl)))) (pssone (psret pnon)) pssnil)))
      (psscons (pssetlcF 11  rfl sc__law_cut_step.nd rfl (sw_true rfl rfl rfl (by decide +kernel)) (piseqK (K := K) (pv 2)) (blkOk_by (own := [("other", 14)]) (N := ["game", "step", "rows", "tree", "upper", "row", "names", "k", "path", "node", "pairs", "rest", "new", "pair", "other", "name"]) (sc := defScope s__law_cut_step) (by decide +kernel)) (tgName (by decide)) (fun _ _ _ _ _ => (pg_name (i := 14) sc__law_cut_step.nd rfl (by first | exact Or.inl rfl | exact Or.inr rfl))) (fun _ _ _ _ _ => (ptsone (ptcmp (opNeK (K := K) (by exact hr.units)) (pixK (K := K) (pv 14) pinT) (pixK (K := K) (pv 5) pinT) (nomark _)))) (fun _ _ _ _ _ => (pv 14)))
      (psscons (pssetlcP 12  rfl sc__law_cut_step.nd rfl (sw_true rfl rfl rfl (by decide +kernel)) (piseqK (K := K) (pv 6)) (blkOk_by (own := [("name", 15)]) (N := ["game", "step", "rows", "tree", "upper", "row", "names", "k", "path", "node", "pairs", "rest", "new", "pair", "other", "name"]) (sc := defScope s__law_cut_step) (by decide +kernel)) (tgName (by decide)) (fun _ _ _ _ _ => (pg_name (i := 15) sc__law_cut_step.nd rfl (by first | exact Or.inl rfl | exact Or.inr rfl))) (fun _ _ _ _ _ => (ptup (pacons (pv 15) (pacons (pixK (K := K) (pv 5) pinT) (pacons (pixK (K := K) (pv 5) pinT) panil))))))
      (pssone (psret (ptup (pacons (pcallTy (cTupleK (K := K)) (by rfl) T.b_tuple (by decide +kernel) (pacons (pcallB (cSortDK (K := K) (by exact hr.units)) (by rfl) T.b_sorted (by decide +kernel) (pacons (pop opAdd (pv 11) (pv 12)) panil)) panil)) (pacons (pcall C__law_cut (by exact hr.mono (by first | decide | omega)) (pacons (pv 3) (pacons (pixK (K := K) (pv 4) pinT) (pacons (pixK (K := K) (pv 5) pinT) (pacons (pv 6) (pacons pinT panil)))))) panil)))))))))))))), fun vs M Q Ep h => ?_⟩)
  obtain ⟨us, rs, t, u, x, ns, o, rfl, g, nle, nl, ho, k⟩ := h
  have rlen : (rs.map Row.pv).length = rs.length := List.length_map _
  have nml : (ns.map PV.str).length = ns.length := List.length_map _
  have rle := g.le
  have nd := g.sn.nodup
  have ok := g.ok
  have bad : (∀ qs t', ¬ CR rs t (.cut u x ns) qs t') → Q .non M := fun n => by
    have e := ho.no n
    subst e; exact k
  have good : ∀ qs t', CR rs t (.cut u x ns) qs t' → Q (gameV qs t') M := fun qs t' r => by
    have e := ho.yes (fun a b => CR.fnl a b) r
    subst e; exact k
  clear k ho
  dsimp only [CStep.pv]
  walk_at "go"
  refine ⟨rs, u, rfl, fun ru hru => ?_, fun hru => ?_⟩
  rotate_left
  · walk_at "on"
    refine ⟨rs, x, rfl, fun r hr => ?_, fun hr => ?_⟩
    all_goals
      walk_at "on"
      exact ⟨_, .refl _, bad fun _ _ ⟨_, _, q, _⟩ => by rw [q.fu] at hru; cases hru⟩
  have hum := List.mem_of_find?_eq_some hru
  have hun : ru.nm = u := by simpa using List.find?_some hru
  subst hun
  walk_at "on"
  refine ⟨rs, x, rfl, fun r hr => ?_, fun hr => ?_⟩
  rotate_left
  · walk_at "on"
    exact ⟨_, .refl _, bad fun _ _ ⟨_, _, q, _⟩ => by rw [q.fx] at hr; cases hr⟩
  have hrm := List.mem_of_find?_eq_some hr
  have hrn : r.nm = x := by simpa using List.find?_some hr
  subst hrn
  have fr : ∀ {a b : Row}, COk rs t ru.nm r.nm ns a b → a = ru ∧ b = r := fun q => ⟨Option.some.inj (q.fu.symm.trans hru), Option.some.inj (q.fx.symm.trans hr)⟩
  have uwl : (ru.ws.map PV.int).length = ru.ws.length := List.length_map _
  walk_at "on"
  refine br_dec (fun h => ?_) (fun hne => ?_)
  · walk_at "on"
    exact ⟨_, .refl _, bad fun _ _ ⟨_, _, q, _⟩ => q.ne h⟩
  walk_at "on"
  refine br_ndec (fun how => ?_) (fun how => ?_)
  · walk_at "on"
    refine ⟨_, .refl _, bad fun _ _ ⟨_, _, q, _⟩ => ?_⟩
    obtain ⟨rfl, rfl⟩ := fr q
    have := q.ow
    omega
  walk_at "on"
  refine br_ndec (fun hl => ?_) (fun hl => ?_)
  · walk_at "on"
    refine ⟨_, .refl _, bad fun _ _ ⟨_, _, q, _⟩ => ?_⟩
    obtain ⟨rfl, rfl⟩ := fr q
    have := q.len
    rw [nml, uwl] at hl
    omega
  rw [nml, uwl] at hl
  walk_at "on"
  refine ⟨by omega, ?_⟩
  refine ⟨fun i σ M1 => ∃ w7 : Option PV, σ = [some (gameV rs t), some (CStep.cut ru.nm r.nm ns).pv, some (rowsV rs), some t.pv, some ru.pv, some r.pv, some (strsV ns), w7, none, none, none, none, none, none, none, none] ∧ M = M1 ∧ ∀ (j : Nat) n, j < i → ns[j]? = some n → n ∉ ns.take j ∧ (n = r.nm ∨ (nameB n = true ∧ n ∉ namesOf rs)), ⟨_, _, by walk_at "subs", .refl _, _, rfl, rfl, fun j n q => by omega⟩, ?_, ?_, ?_⟩
  · intros; trivial
  · rintro i z σ M1 hz ⟨w7, rfl, rfl, hi⟩
    obtain ⟨il, rfl⟩ := rng_get hz
    rw [nml] at il
    rw [show (0 : Int) + (i : Int) = (i : Int) by omega]
    obtain ⟨n, hn⟩ : ∃ n, ns[i]? = some n := ⟨_, List.getElem?_eq_getElem (by omega)⟩
    have hat : atI (ns.map PV.str) (i : Int) = some (.str n) := atI_nat (by rw [List.getElem?_map, hn]; rfl)
    walk_at "on"
    refine ⟨fun b M1 => M = M1 ∧ (b = true → n ∈ ns.take i ∨ ¬ (n = r.nm ∨ (nameB n = true ∧ n ∉ namesOf rs))) ∧ (b = false → n ∉ ns.take i ∧ (n = r.nm ∨ (nameB n = true ∧ n ∉ namesOf rs))), ?_, ?_⟩
    · walk_at "on"
      rw [cutL_map, cut_to]
      walk_at "on"
      refine br_dec (fun h => ?_) (fun h => ?_)
      · exact ⟨_, .refl _, rfl, fun _ => .inl h, fun q => by cases q⟩
      walk_at "on"
      refine br_ndec (fun h2 => ?_) (fun h2 => ?_)
      · walk_at "on"
        refine ⟨rs, n, rfl, nl n (List.mem_of_getElem? hn), ?_⟩
        walk_at "on"
        refine ⟨_, .refl _, rfl, fun q => .inr fun z => ?_, fun q => ⟨h, .inr ?_⟩⟩
        · rcases z with z | z
          · exact h2 z
          · rw [z.1, decide_eq_true z.2] at q; cases q
        · simpa using q
      · exact ⟨_, .refl _, rfl, fun q => by (cases q), fun _ => ⟨h, .inl h2⟩⟩
    rintro b M1 ⟨rfl, b1, b2⟩
    refine br_of (fun h => ?_) (fun h => ?_)
    · walk_at "on"
      refine ⟨_, .refl _, bad fun _ _ ⟨_, _, q, _⟩ => ?_⟩
      rcases b1 h with z | z
      · exact nodup_take.mpr q.nd i n hn z
      · exact z (q.nw n (List.mem_of_getElem? hn))
    walk_at "on"
    refine ⟨_, _, by walk_at "subs", .refl _, _, rfl, rfl, fun j n' hj hn' => ?_⟩
    by_cases e : j = i
    · subst e; rw [hn] at hn'; cases hn'; exact b2 h
    · exact hi j n' (by omega) hn'
  rintro σ M1 ⟨w7, rfl, rfl, hi⟩
  rw [rng_len, nml] at hi
  have ndn : ns.Nodup := nodup_take.mp fun j n hn => (hi j n (by have := lt_of_get hn; omega) hn).1
  have nw : ∀ n ∈ ns, n = r.nm ∨ (nameB n = true ∧ n ∉ namesOf rs) := fun n hn => by
    obtain ⟨j, hj⟩ := List.getElem?_of_mem hn
    exact (hi j n (by have := lt_of_get hj; omega) hj).2
  clear hi
  have h0 : Hd [] M M [] := .start
  have gsz := g.sz
  have nlen := nodes_len (t := t) (p := []) (s := [])
  walk_at "on"
  refine ⟨t, [], [], rfl, g.bt, by omega, by decide, by decide, by decide, fun ln M1 hln sb hM1 => ?_⟩
  walk_at "on"
  refine ⟨fun i σ M2 => ∃ w7 w8 w9 w10 : Option PV, σ = [some (gameV rs t), some (CStep.cut ru.nm r.nm ns).pv, some (rowsV rs), some t.pv, some ru.pv, some r.pv, some (strsV ns), w7, w8, w9, w10, none, none, none, none, none] ∧ Sub M1 M2 ∧ ∀ (j : Nat) e, j < i → (nodesT t [] [])[j]? = some e → ∀ n s', (∃ cs, e.2.1 = .node n cs) → e.2.2 = s'.map pq → n = r.nm → ru.nm ∈ pns s', ⟨_, _, by walk_at "subs", .refl _, _, _, _, _, rfl, .refl _, fun j e q => by omega⟩, ?_, ?_, ?_⟩
  · rintro i σ M2 ⟨_, _, _, _, rfl, sb2, _⟩
    exact .inl (sb2 _ _ hM1)
  · rintro i z σ M2 hz ⟨w7, w8, w9, w10, rfl, sb2, hi⟩
    obtain ⟨e, he, rfl⟩ := nd_at hz
    obtain ⟨n, cs, s', e1, e2, e3⟩ := nodes_to (s := []) e (List.mem_of_getElem? he)
    obtain ⟨p0, t0, s0⟩ := e
    have e1 : t0 = .node n cs := e1
    have e2 : s0 = s'.map pq := e2
    subst e1 e2
    have sl : s'.length ≤ 16777216 - 1 := by
      have h1 := nodesP_nd g.tok (s := []) List.nodup_nil (by simp) _ e3
      have h2 := nodup_len (us := namesOf rs) h1 fun m hm => by
        rcases nodesP_in g.bt _ e3 m hm with h | h
        · cases h
        · exact g.nm m h
      rw [List.length_map, List.length_map] at h2
      have h2 : s'.length ≤ rs.length := h2
      omega
    have psl : (s'.map pq).length = s'.length := List.length_map _
    walk_at "on"
    refine ⟨fun b M3 => Sub M1 M3 ∧ (b = true → n = r.nm ∧ ru.nm ∉ pns s') ∧ (b = false → n = r.nm → ru.nm ∈ pns s'), ?_, ?_⟩
    · walk_at "on"
      refine br_dec (fun h => ?_) (fun h => ?_)
      · walk_at "on"
        refine ⟨fun j => .str (s'.getD j (⟨#[]⟩, 0)).1, by show (s'.map pq).length ≤ 16777216; omega, fun _ _ => trivial, fun j z M3 Q2 hz sb3 k3 => ?_, fun D l hD hl2 => ?_⟩
        · obtain ⟨q, hq, rfl⟩ := pq_at hz
          refine ⟨_, rfl, ?_⟩
          simp only [getD_at hq] at k3
          walk_at "on"
          exact k3 _ (.refl _)
        rw [psl, mk_list s' (⟨#[]⟩, 0) (fun q => PV.str q.1), show (s'.map fun q => PV.str q.1) = (pns s').map PV.str by rw [List.map_map]; rfl] at hl2
        subst hl2
        have hr2 : (updM M2 D (.lst ((pns s').map PV.str))) D = some (.lst ((pns s').map PV.str)) := updM_same
        walk_at "on"
        refine ⟨_, .refl _, sb2.trans (.new hD), fun q => ⟨h, ?_⟩, fun q _ => ?_⟩
        · simpa using q
        · simpa using q
      · exact ⟨_, .refl _, sb2, fun q => by (cases q), fun _ q => absurd q h⟩
    rintro b M3 ⟨sb3, b1, b2⟩
    refine br_of (fun h => ?_) (fun h => ?_)
    · walk_at "on"
      obtain ⟨z1, z2⟩ := b1 h
      exact ⟨M, sb.trans sb3, bad fun _ _ ⟨_, _, q, _⟩ => z2 (q.beh _ e3 z1)⟩
    walk_at "on"
    refine ⟨_, _, by walk_at "subs", .refl _, _, _, _, _, rfl, sb3, fun j e' hj he' => ?_⟩
    by_cases ej : j = i
    · subst ej
      rw [he] at he'; cases he'
      rintro n' s'' ⟨cs', e4⟩ e5 e6
      have e4 : Tr.node n cs = Tr.node n' cs' := e4
      cases e4
      have e5 : s'.map pq = s''.map pq := e5
      have := pq_inj e5
      subst this
      exact b2 h e6
    · exact hi j e' (by omega) he'
  rintro σ M2 ⟨w7, w8, w9, w10, rfl, sb2, hi⟩
  have beh : BehP ru.nm r.nm t [] := fun e he en => by
    obtain ⟨d, hd, cs, e1, e2⟩ := nodes_of (p := []) e he
    obtain ⟨j, hj⟩ := List.getElem?_of_mem hd
    exact hi j d (by rw [List.length_map]; exact lt_of_get hj) hj e.1 e.2 ⟨cs, e1⟩ e2 en
  clear hi
  have C : COk rs t ru.nm r.nm ns ru r := ⟨hru, hr, hne, by omega, by omega, ndn, nw, beh⟩
  have cru := g.rw ru hum
  have u1 := cru.l1
  have hau : AT ru.nm ns.length t := by rw [show ns.length = ru.ws.length by omega]; exact g.ar ru hum
  have h0 := h0.step (sb.trans sb2)
  walk_at "on"
  refine ⟨fun i => !decide ((rs.getD i r0).nm = r.nm), fun i => (rs.getD i r0).pv, by omega, fun _ _ => trivial, fun i z M3 Q3 hz sb k3 => ?_, fun i z M3 Q3 hz hb sb k3 => ?_, fun Dl l hD hl => ?_⟩
  · obtain ⟨q, hq, rfl⟩ := row_at hz
    refine ⟨_, rfl, ?_⟩
    simp only [getD_at hq] at k3
    walk_at "on"
    exact k3 _ (.refl _)
  · obtain ⟨q, hq, rfl⟩ := row_at hz
    refine ⟨_, rfl, ?_⟩
    simp only [getD_at hq] at k3
    walk_at "on"
    exact k3 _ (.refl _)
  rw [rlen, flt_list rs r0 (fun q => !decide (q.nm = r.nm)) Row.pv] at hl
  subst hl
  have h0 := h0.new (o := .lst ((offN rs r.nm).map Row.pv)) hD
  have ol : (offN rs r.nm).length ≤ rs.length := List.length_filter_le _ _
  walk_at "on"
  refine ⟨fun i => (⟨ns.getD i r.nm, r.ow, r.ws⟩ : Row).pv, by omega, fun _ _ => trivial, fun i z M3 Q3 hz sb k3 => ?_, fun D2 l2 hD2 hl2 => ?_⟩
  · obtain ⟨n, hn, rfl⟩ := str_at hz
    refine ⟨_, rfl, ?_⟩
    simp only [getD_at hn] at k3
    walk_at "on"
    exact k3 _ (.refl _)
  rw [nml, mk_list ns r.nm (fun n => (⟨n, r.ow, r.ws⟩ : Row).pv), show (ns.map fun n => (⟨n, r.ow, r.ws⟩ : Row).pv) = (rowsN ns r.ow r.ws).map Row.pv by rw [rowsN, List.map_map]; rfl] at hl2
  subst hl2
  have h0 := h0.new (o := .lst ((rowsN ns r.ow r.ws).map Row.pv)) hD2
  walk_at "on"
  refine ⟨_, _, h0.get 1 rfl, h0.get 0 rfl, by rw [sizeLine_eq, List.length_map, List.length_map, List.length_map]; omega, fun q2 hq2 => ?_⟩
  rw [← List.map_append]
  have h0 := h0.new (o := .lst ((offN rs r.nm ++ rowsN ns r.ow r.ws).map Row.pv)) hq2
  have nn := C.names ok
  obtain ⟨qs, e2, pm, sn⟩ := sort_rows nn
  have r3 := (g.rw r hrm).l3
  walk_at "on"
  refine ⟨rows_pure (fun q hq => ?_), (rows_sortable _).1, (rows_sortable _).2, fun p hp => ?_⟩
  · rcases List.mem_append.mp hq with q1 | q1
    · exact ok.ls q (offN_sub q1)
    · obtain ⟨n, hn, rfl⟩ := List.mem_map.mp q1
      show r.ws.length ≤ 1000; omega
  rw [e2]
  have h0 := h0.new (o := .lst (qs.map Row.pv)) hp
  walk_at "on"
  refine ⟨t, ru.nm, r.nm, ns, [], 0, rfl, g.bt, hau, fun k' hk' => by (cases hk'), by omega, by omega, beh, ?_⟩
  walk_at "on"
  exact ⟨M, h0.sub, good qs _ ⟨ru, r, C, pm, sn, rfl⟩⟩

theorem Nm.len {x : Str} (h : Nm x) : x.length ≤ 1000 := by
  obtain ⟨c, r, e, _, _, h3⟩ := h.ex
  rw [str_len, e, List.length_cons]; omega
def sp__law_names (K : Kf) : PSpec := fun vs M Q _ => ∃ (a s u : Addr) (ns : List Int) (us : List Str) (c : Nat), vs = [.ref a, .ref s, .ref u, .int (c : Int)] ∧ Env K M a s ns ∧ rdL K M u (us.map PV.str) ∧ u ≠ s ∧ us.length + c ≤ 62 ∧
  ∀ xs M', xs.length = c → xs.Nodup → (∀ x ∈ xs, Nm x ∧ x ∉ us) → Env K M' a s ns → Keep s M M' → Q (strsV xs) M'
theorem sp__law_names_len {K : Kf} {vs : List PV} {M : PHp} {Q : PVK} {E : PXK} (h : sp__law_names K vs M Q E) : vs.length = 4 := by
  obtain ⟨_, _, _, _, _, _, rfl, _⟩ := h; rfl

theorem ok__law_names {P : Program} {w : World} {K : Kf} {mg : Str → Option Value} {base : Heap} (h0 : Here K mg "_law_names" s__law_names ["script", "source", "used", "count"]) (T : Blt mg) (XC : Xc K mg) (Su : Sure P base) (C__law_name : Callee P w K mg base 35 "_law_name" ["script", "source", "used"] (sp__law_name K)) : Callee P w K mg base 36 "_law_names" ["script", "source", "used", "count"] (sp__law_names K) := by
  refine ok_of h0 sc__law_names (fun vs M Q E h => sp__law_names_len h) (fun f cdv A outer s H E hr => ⟨_, (psscons (psset 4 sc__law_names.nd (ptup panil))
      (psscons (psfor PassesOwn.never rfl (pirng1 (by rfl) T.b_range (pacons (pv 3) panil)) (pgname (i := 5) sc__law_names.nd) (pssone (psset 4 sc__law_names.nd (pop opAdd (pv 4) (ptup (pacons (pcall C__law_name (by exact hr.mono (by first | decide | omega)) (pacons (pv 0) (pacons (pv 1) (pacons (pop opAdd (pcallTy (cListK (K := K)) (by rfl) T.b_list (by decide +kernel) (pacons (pv 2) panil)) (pcallTy (cListK (K := K)) (by rfl) T.b_list (by decide +kernel) (pacons (pv 4) panil))) panil)))) panil))))))
      (pssone (psret (pv 4))))), fun vs M Q Ep h => ?_⟩)
  obtain ⟨a, s, u, ns, us, c, rfl, e, hu, hus, hl, k⟩ := h
  have he := He.start e
  walk_at "go"
  refine ⟨by omega, ?_⟩
  refine ⟨fun i σ M' => ∃ (xs : List Str) (w5 : Option PV), σ = [some (.ref a), some (.ref s), some (.ref u), some (.int (c : Int)), some (strsV xs), w5] ∧ xs.length = i ∧ xs.Nodup ∧ (∀ x ∈ xs, Nm x ∧ x ∉ us) ∧ He K [] a s ns M M' [], ⟨_, _, by walk_at "subs", .refl _, [], _, rfl, rfl, List.nodup_nil, by simp, he⟩, ?_, ?_, ?_⟩
  · intros; trivial
  · clear he
    rintro i z σ M1 hz ⟨xs, w5, rfl, xl, nd, hx, he⟩
    obtain ⟨hi, rfl⟩ := rng_get hz
    have hu1 := hu.keep hus he.keep
    have usl : (us.map PV.str).length = us.length := List.length_map _
    have xsl : (xs.map PV.str).length = xs.length := List.length_map _
    walk_at "on"
    refine al he fun p1 hp1 he => ?_
    replace he := he (.lst (us.map PV.str))
    walk_at "on"
    refine al he fun p2 hp2 he => ?_
    replace he := he (.lst (xs.map PV.str))
    walk_at "on"
    refine ⟨_, _, he.get 1 rfl, he.get 0 rfl, by rw [usl, xsl, sizeLine_eq]; omega, fun p3 hp3 => ?_⟩
    rw [← List.map_append]
    replace he := he.new (o := .lst ((us ++ xs).map PV.str)) hp3
    walk_at "on"
    refine ⟨a, s, p3, ns, us ++ xs, rfl, he.env, .inl (he.get 0 rfl), he.ne_s 0 rfl, by rw [List.length_append]; omega, fun x M2 nx nin e2 k2 => ?_⟩
    replace he := (he.call e2 k2).nil
    walk_at "on"
    refine ⟨by rw [xsl, List.length_singleton, sizeLine_eq]; omega, ?_⟩
    rw [show xs.map PV.str ++ [PV.str x] = (xs ++ [x]).map PV.str by rw [List.map_append]; rfl]
    refine ⟨_, _, by walk_at "subs", .refl _, xs ++ [x], _, rfl, by rw [List.length_append, xl]; rfl, ?_, fun y hy => ?_, he⟩
    · rw [List.nodup_append]
      exact ⟨nd, by simp, fun y hy z hz e => nin (List.mem_append_right _ (by rw [List.mem_singleton.mp hz] at e; exact e ▸ hy))⟩
    · rcases List.mem_append.mp hy with q | q
      · exact hx y q
      · rw [List.mem_singleton.mp q]; exact ⟨nx, fun z => nin (List.mem_append_left _ z)⟩
  · clear he
    rintro σ M1 ⟨xs, w5, rfl, xl, nd, hx, he⟩
    rw [rng_len] at xl
    walk_at "on"
    exact ⟨_, .refl _, k xs _ (by omega) nd hx he.env he.keep⟩

abbrev abE (x : Str × Int) : PV := .tup [.str x.1, .int x.2]
def sp_above (K : Kf) : PSpec := fun vs M Q _ => ∃ (t v : Tr) (p : List Int), vs = [t.pv, .tup (p.map PV.int)] ∧ trAt p t = some v ∧ p.length ≤ 1000 ∧ Q (.tup ((abv p t).map abE)) M
theorem sp_above_len {K : Kf} {vs : List PV} {M : PHp} {Q : PVK} {E : PXK} (h : sp_above K vs M Q E) : vs.length = 2 := by
  obtain ⟨_, _, _, rfl, _⟩ := h; rfl
theorem abv_len : ∀ {p : List Int} {t v : Tr}, trAt p t = some v → (abv p t).length = p.length
  | [], t, v, _ => by cases t <;> rfl
  | m :: p, t, v, h => by
    obtain ⟨n, cs, c, rfl, h0, hc, h3⟩ := trAt_cons h
    rw [abv_node hc, List.length_cons, List.length_cons, abv_len h3]

theorem ok_above {P : Program} {w : World} {K : Kf} {mg : Str → Option Value} {base : Heap} (h0 : Here K mg "above" s_above ["tree", "path"]) (T : Blt mg) (XC : Xc K mg) (Su : Sure P base)  : Callee P w K mg base 34 "above" ["tree", "path"] (sp_above K) := by
  refine ok_of h0 sc_above (fun vs M Q E h => sp_above_len h) (fun f cdv A outer s H E hr => ⟨_, (psscons (psset 2 sc_above.nd (plst panil))
      (psscons (psset 3 sc_above.nd (pv 0))
      (psscons (psfor PassesOwn.never rfl (piseqK (K := K) (pv 1)) (pgname (i := 4) sc_above.nd) (psscons (psifc (PW.pt (pwor (ptval (pcallB (cIsiK (K := K)) (by rfl) T.b_isinstance (by decide +kernel) (pacons (pv 3) (pacons (pbltn (p := .ty "str") (v := .ty "str") (by rfl) T.b_str (by decide +kernel) rfl (fun _ => .ty _)) panil)))) (pwor1 (ptnot (ptchain opLe (opLt (by exact hr.units0)) pinT (pv 4) (pcallB (cLenK (K := K)) (by rfl) T.b_len (by decide +kernel) (pacons (pixK (K := K) (pv 3) pinT) panil))))))) pssdead pssnil)
      (psscons (psexpr (pbmK (K := K) PySem.F.plainAttrs_list PySem.F.slot_list_append PySem.F.type_list_append mAppend (pv 2) (pacons (ptup (pacons (pixK (K := K) (pv 3) pinT) (pacons (pv 4) panil))) panil)))
      (pssone (psset 3 sc_above.nd (pixK (K := K) (pixK (K := K) (pv 3) pinT) (pv 4)))))))
      (pssone (psret (pcallTy (cTupleK (K := K)) (by rfl) T.b_tuple (by decide +kernel) (pacons (pv 2) panil))))))), fun vs M Q Ep h => ?_⟩)
  obtain ⟨t, v, p, rfl, hv, hp, k⟩ := h
  have h0 : Hd [] M M [] := .start
  walk_at "go"
  refine ald h0 fun l hl h0 => ?_
  walk_at "on"
  refine ⟨fun i σ M1 => ∃ (ti : Tr) (w : Option PV), σ = [some t.pv, some (.tup (p.map PV.int)), some (.ref l), some ti.pv, w] ∧ trAt (p.drop i) ti = some v ∧ (abv p t).drop i = abv (p.drop i) ti ∧ Hd [] M M1 [(l, .lst (((abv p t).take i).map abE))], ⟨_, _, .refl _, .refl _, t, _, rfl, hv, rfl, h0 _⟩, ?_, ?_, ?_⟩
  · intros; trivial
  · clear h0
    rintro i x σ M1 hx ⟨ti, w, rfl, hi, ha, h0⟩
    obtain ⟨m, hm, rfl⟩ := int_at hx
    rw [drop_at hm] at hi ha
    obtain ⟨n, cs, c, rfl, hm0, hc, h3⟩ := trAt_cons hi
    have hl := lt_of_get hc
    rw [abv_node hc] at ha
    have hai : (abv p t)[i]? = some (n, m) := by
      have e := congrArg (fun q => q[0]?) ha
      simpa [List.getElem?_drop] using e
    have hd2 : (abv p t).drop (i + 1) = abv (p.drop (i + 1)) c := by
      rw [drop_at hai] at ha
      exact (List.cons.inj ha).2
    obtain ⟨c', hc', hcp⟩ := kid_at (cs := cs) hm0 (by omega)
    rw [hc] at hc'; cases hc'
    have il := lt_of_get hm
    walk_at "on"
    refine ⟨fun b M' => b = false ∧ M' = M1, ?_, ?_⟩
    · walk_at "on"
      refine br_t (decide_eq_true hm0) ?_
      walk_at "on"
      refine ⟨_, .refl _, ?_, rfl⟩
      rw [pvs_len]
      simp; omega
    rintro b M' ⟨rfl, rfl⟩
    walk_at "on"
    refine ⟨_, h0.get 0 rfl, by rw [List.length_map, List.length_take, sizeLine_eq]; omega, ?_⟩
    walk_at "on"
    refine ⟨_, _, by walk_at "subs", .refl _, c, _, rfl, h3, hd2, ?_⟩
    rw [take_succ' hai, List.map_append]
    walk_at "hd"
  · clear h0
    rintro σ M1 ⟨ti, w, rfl, hi, ha, h0⟩
    rw [List.length_map, List.take_of_length_le (by rw [abv_len hv]; exact Nat.le_refl _)] at h0
    walk_at "on"
    exact ⟨_, h0.sub, k⟩

def sp_move_count (K : Kf) : PSpec := fun vs M Q _ => ∃ (rs : List Row) (t : PV) (x : Str) (r : Row), vs = [.tup [rowsV rs, t], .str x] ∧ rs.find? (fun r => decide (r.nm = x)) = some r ∧ Q (.int (r.ws.length : Nat)) M
theorem sp_move_count_len {K : Kf} {vs : List PV} {M : PHp} {Q : PVK} {E : PXK} (h : sp_move_count K vs M Q E) : vs.length = 2 := by
  obtain ⟨_, _, _, _, rfl, _⟩ := h; rfl

theorem ok_move_count {P : Program} {w : World} {K : Kf} {mg : Str → Option Value} {base : Heap} (h0 : Here K mg "move_count" s_move_count ["game", "name"]) (T : Blt mg) (XC : Xc K mg) (Su : Sure P base) (C_row_of : Callee P w K mg base 34 "row_of" ["game", "name"] (sp_row_of K)) : Callee P w K mg base 35 "move_count" ["game", "name"] (sp_move_count K) := by
  refine ok_of h0 sc_move_count (fun vs M Q E h => sp_move_count_len h) (fun f cdv A outer s H E hr => ⟨_, (pssone (psret (pcallB (cLenK (K := K)) (by rfl) T.b_len (by decide +kernel) (pacons (pixK (K := K) (pcall C_row_of (by exact hr.mono (by first | decide | omega)) (pacons (pv 0) (pacons (pv 1) panil))) pinT) panil)))), fun vs M Q Ep h => ?_⟩)
  obtain ⟨rs, t, x, r, rfl, hf, k⟩ := h
  walk_at "go"
  refine ⟨rs, t, x, rfl, fun r' hr' => ?_, fun hn => by rw [hf] at hn; cases hn⟩
  rw [hf] at hr'; cases hr'
  walk_at "on"
  refine ⟨_, .refl _, ?_⟩
  rw [List.length_map]; exact k

/-- m0, m1, .. -/
def frS (k : Nat) : Str := ("m" : Str) ++ numS k
theorem frS_nodup : ((List.range 128).map frS).Nodup := by decide +kernel
theorem num_len : ∀ k < 128, (numS k).cps.toList.length ≤ 3 := by decide +kernel
def fl (names : List Str) (m : Nat) : List Str := ((List.range m).map frS).filter fun x => !decide (x ∈ names)
theorem fl_succ (names : List Str) (m : Nat) : fl names (m + 1) = fl names m ++ (if frS m ∈ names then [] else [frS m]) := by
  unfold fl
  rw [List.range_succ, List.map_append, List.filter_append]
  by_cases h : frS m ∈ names <;> simp [h]
theorem fl_pre (names : List Str) {m n : Nat} (h : m ≤ n) : ∃ r, fl names n = fl names m ++ r := by
  induction n with
  | zero => rw [show m = 0 by omega]; exact ⟨[], (List.append_nil _).symm⟩
  | succ n ih =>
    by_cases e : m = n + 1
    · subst e; exact ⟨[], (List.append_nil _).symm⟩
    · obtain ⟨r, hr⟩ := ih (by omega)
      exact ⟨r ++ (if frS n ∈ names then [] else [frS n]), by rw [fl_succ, hr, List.append_assoc]⟩
theorem fl_len {names : List Str} {n : Nat} (h : n + names.length ≤ 128) : n ≤ (fl names (n + names.length)).length := by
  have nd : ((List.range (n + names.length)).map frS).Nodup := by
    refine List.Sublist.nodup ?_ frS_nodup
    exact (List.range_sublist.mpr h).map frS
  have h1 := len_two (fun x => decide (x ∈ names)) ((List.range (n + names.length)).map frS)
  have h2 := nodup_len (us := names) (nd.filter fun x => decide (x ∈ names)) fun x hx => by
    have := (List.mem_filter.mp hx).2
    exact of_decide_eq_true this
  rw [List.length_map, List.length_range] at h1
  unfold fl
  omega
def freshT (names : List Str) (n : Nat) : List Str := (fl names (n + names.length)).take n
theorem freshT_of {names : List Str} {n m : Nat} (h : m ≤ n + names.length) (hl : (fl names m).length = n) : freshT names n = fl names m := by
  obtain ⟨r, hr⟩ := fl_pre names h
  unfold freshT
  rw [hr, ← hl, List.take_left']
  rfl
def sp_fresh_names (K : Kf) : PSpec := fun vs M Q _ => ∃ (rs : List Row) (t : PV) (n : Nat), vs = [.tup [rowsV rs, t], .int (n : Int)] ∧ n + rs.length ≤ 120 ∧ Q (.tup ((freshT (namesOf rs) n).map PV.str)) M
theorem sp_fresh_names_len {K : Kf} {vs : List PV} {M : PHp} {Q : PVK} {E : PXK} (h : sp_fresh_names K vs M Q E) : vs.length = 2 := by
  obtain ⟨_, _, _, rfl, _⟩ := h; rfl

theorem ok_fresh_names {P : Program} {w : World} {K : Kf} {mg : Str → Option Value} {base : Heap} (h0 : Here K mg "fresh_names" s_fresh_names ["game", "count"]) (T : Blt mg) (XC : Xc K mg) (Su : Sure P base)  : Callee P w K mg base 34 "fresh_names" ["game", "count"] (sp_fresh_names K) := by
  refine ok_of h0 sc_fresh_names (fun vs M Q E h => sp_fresh_names_len h) (fun f cdv A outer s H E hr => ⟨_, (psscons (pssetlcP 2  rfl sc_fresh_names.nd rfl (sw_true rfl rfl rfl (by decide +kernel)) (piseqK (K := K) (pixK (K := K) (pv 0) pinT)) (blkOk_by (own := [("row", 6)]) (N := ["game", "count", "declared", "found", "number", "name", "row"]) (sc := defScope s_fresh_names) (by decide +kernel)) (tgName (by decide)) (fun _ _ _ _ _ => (pg_name (i := 6) sc_fresh_names.nd rfl (by first | exact Or.inl rfl | exact Or.inr rfl))) (fun _ _ _ _ _ => (pixK (K := K) (pv 6) pinT)))
      (psscons (psset 3 sc_fresh_names.nd (plst panil))
      (psscons (psset 4 sc_fresh_names.nd pinT)
      (psscons (pswhile PassesOwn.never (ptcmp (opLt (by exact hr.units0)) (pcallB (cLenK (K := K)) (by rfl) T.b_len (by decide +kernel) (pacons (pv 3) panil)) (pv 1) (nomark _)) (psscons (psset 5 sc_fresh_names.nd (pop opAdd pstr (pcallTy cStr (by rfl) T.b_str (by decide +kernel) (pacons (pv 4) panil))))
      (psscons (psif (ptcmp (opNotIn (K := K)) (pv 5) (pv 2) rfl) (pssone (psexpr (pbmK (K := K) PySem.F.plainAttrs_list PySem.F.slot_list_append PySem.F.type_list_append mAppend (pv 3) (pacons (pv 5) panil)))) pssnil)
      (pssone (psaug 4 sc_fresh_names.nd iopAdd pinT)))))
      (pssone (psret (pcallTy (cTupleK (K := K)) (by rfl) T.b_tuple (by decide +kernel) (pacons (pv 3) panil)))))))), fun vs M Q Ep h => ?_⟩)
  obtain ⟨rs, t, n, rfl, hn, k⟩ := h
  walk_at "go"
  refine ⟨fun i => .str (rs.getD i r0).nm, by rw [List.length_map]; omega, fun _ _ => trivial, fun i x M2 Q2 hx sb k2 => ?_, fun Dl l hD hl => ?_⟩
  · obtain ⟨r, hr, rfl⟩ := row_at hx
    refine ⟨_, rfl, ?_⟩
    simp only [getD_at hr] at k2
    walk_at "on"
    exact k2 _ (.refl _)
  have hl : l = (namesOf rs).map PV.str := by
    rw [hl, List.length_map]
    have e : rs = mk rs.length fun i => rs.getD i r0 := mk_of rs r0
    conv => rhs; rw [e]
    show _ = (List.map Row.nm _).map PV.str
    rw [mk_map, mk_map]
  subst hl
  have nl : (namesOf rs).length = rs.length := List.length_map _
  generalize hnm : namesOf rs = names at k nl
  walk_at "on"
  intro p hp
  have hpD : Dl ≠ p := neM updM_same hp
  walk_at "on"
  refine ⟨fun w σ M' => ∃ (m : Nat) (o : Option PV), σ = [none, some (.int (n : Int)), some (.ref Dl), some (.ref p), some (.int (m : Int)), o, none] ∧ m ≤ n + names.length ∧ (n + names.length) - m = w ∧ (fl names m).length ≤ n ∧ M' = updM (updM M Dl (.lst (names.map PV.str))) p (.lst ((fl names m).map PV.str)), ⟨n + names.length, _, _, by walk_at "subs", .refl _, 0, _, rfl, by omega, rfl, Nat.zero_le _, rfl⟩, ?_⟩
  rintro w σ M' ⟨m, o, rfl, hm, hw, hf, rfl⟩
  have hp1 : updM (updM M Dl (.lst (names.map PV.str))) p (.lst ((fl names m).map PV.str)) p = some (.lst ((fl names m).map PV.str)) := updM_same
  have hd1 : updM (updM M Dl (.lst (names.map PV.str))) p (.lst ((fl names m).map PV.str)) Dl = some (.lst (names.map PV.str)) := by rw [updM_ne hpD]; exact updM_same
  walk_at "on"
  refine br_dec (fun hlt => ?_) (fun hge => ?_)
  · rw [List.length_map] at hlt
    have hmn : m < n + names.length := by
      by_cases e : m = n + names.length
      · have := fl_len (names := names) (n := n) (by omega)
        rw [← e] at this; omega
      · omega
    walk_at "on"
    refine ⟨by simp; exact Nat.lt_of_le_of_lt (Nat.log2_le_self m) (by omega), ?_⟩
    walk_at "on"
    refine ⟨app_len (n := 1) (m := 3) (by decide) (num_len m (by omega)) (by decide), ?_⟩
    walk_at "on"
    have e : ("m" : Str) ++ numS m = frS m := rfl
    have stp1 := fl_succ names m
    by_cases hin : frS m ∈ names
    · refine br_f (by rw [show (("m" : Str) ++ (toString (m : Int) : Str)) = frS m from rfl, decide_eq_true hin]; rfl) ?_
      rw [if_pos hin, List.append_nil] at stp1
      walk_at "on"
      exact ⟨n + names.length - (m + 1), by omega, _, _, by walk_at "subs", .refl _, m + 1, _, rfl, by omega, rfl, by rw [stp1]; omega, by rw [stp1]⟩
    · refine br_t (by rw [show (("m" : Str) ++ (toString (m : Int) : Str)) = frS m from rfl, decide_eq_false hin]; rfl) ?_
      rw [if_neg hin] at stp1
      walk_at "on"
      refine ⟨_, hp1, by rw [List.length_map, sizeLine_eq]; omega, ?_⟩
      walk_at "on"
      refine ⟨n + names.length - (m + 1), by omega, _, _, by walk_at "subs", .refl _, m + 1, _, rfl, by omega, rfl, by rw [stp1, List.length_append]; simp; omega, ?_⟩
      rw [stp1, updM_updM, List.map_append]; rfl
  · rw [List.length_map] at hge
    walk_at "on"
    refine ⟨M, Sub.trans (.new hD) (.new hp), ?_⟩
    rw [← freshT_of hm (by omega)]
    exact k

theorem strs_pure40 {us : List Str} : ∀ x ∈ us.map PV.str, PureD 40 x := fun x hx => by
  obtain ⟨r, _, rfl⟩ := List.mem_map.mp hx
  exact .str _
theorem strs_sortable (us : List Str) : PySem.W.AllAlike ((us.map PV.str).map toD) ∧ PySem.W.Sortable ((us.map PV.str).map toD) := by
  rw [List.map_map]
  exact ⟨PySem.W.AllAlike.of (enc := fun r : Str => toD (.str r)) fun a b => rfl, PySem.W.Sortable.others (enc := fun r : Str => toD (.str r)) fun r => ⟨(fun e => by cases e), (fun xs e => by cases e)⟩⟩
theorem sort_strs (us : List Str) : ∃ qs : List Str, (us.map PV.str).mergeSort (PySem.W.dataLe false toD) = qs.map PV.str ∧ qs.Perm us :=
  ⟨us.mergeSort (PySem.W.dataLe false fun r => toD (.str r)), (List.map_mergeSort (f := PV.str) (l := us) (r := PySem.W.dataLe false fun r => toD (.str r)) (s := PySem.W.dataLe false toD) (fun _ _ _ _ => rfl)).symm, List.mergeSort_perm _ _⟩
theorem TOk.nlen {us : List Str} {rs : List Row} {t : Tr} (h : TOk us rs t) {l : List Str} (nd : l.Nodup) (s : ∀ x ∈ l, x ∈ nmT t) : l.length ≤ rs.length := by
  have := nodup_len (us := namesOf rs) nd fun x hx => by
    obtain ⟨r, hr, rfl⟩ := h.names x (s x hx)
    exact List.mem_map_of_mem hr
  rwa [List.length_map] at this
theorem lts_nodup {l : List Str} (h : l.Pairwise lts) : l.Nodup := by
  rw [List.nodup_iff_pairwise_ne]
  exact h.imp fun {a b} q e => by rw [e] at q; exact lts_irrefl _ q
theorem sort_strs2 {us : List Str} (nd : us.Nodup) : ∃ qs : List Str, (us.map PV.str).mergeSort (PySem.W.dataLe false toD) = qs.map PV.str ∧ qs.Perm us ∧ qs.Pairwise lts := by
  refine ⟨us.mergeSort (PySem.W.dataLe false fun r => toD (.str r)), (List.map_mergeSort (f := PV.str) (l := us) (r := PySem.W.dataLe false fun r => toD (.str r)) (s := PySem.W.dataLe false toD) (fun _ _ _ _ => rfl)).symm, List.mergeSort_perm _ _, ?_⟩
  have tl := PySem.W.sortLe_total (PyProof.Rows.listOrd PyProof.Rows.itemOrd) false fun r : Str => PySem.W.keyToks (toD (.str r))
  have pw : (us.mergeSort (PySem.W.dataLe false fun r => toD (.str r))).Pairwise (fun a b => PySem.W.dataLe false (fun r : Str => toD (.str r)) a b = true) := List.pairwise_mergeSort tl.trans (fun a b => Bool.or_eq_true_iff.mpr (tl.total a b)) us
  have nd2 : (us.mergeSort (PySem.W.dataLe false fun r => toD (.str r))).Nodup := (List.mergeSort_perm us _).nodup_iff.mpr nd
  rw [List.nodup_iff_pairwise_ne] at nd2
  refine (pw.and nd2).imp fun {a b} ⟨h1, h2⟩ => ?_
  have h3 : (!PySem.W.dataLt (toD (.str b)) (toD (.str a))) = true := h1
  rw [show toD (.str b) = .str b from rfl, show toD (.str a) = .str a from rfl, PySem.W.dataLt_str, Bool.not_eq_true', decide_eq_false_iff_not] at h3
  exact lts_total (Ne.symm h2) h3
def sp_sets_in (K : Kf) (n : Nat) : PSpec := fun vs M Q _ => ∃ (t : Tr) (us : List Str) (rs : List Row), vs = [t.pv] ∧ TOk us rs t ∧ rs.length < n ∧ n ≤ 20 ∧ ∀ l : List Str, (∀ x, x ∈ l ↔ x ∈ nmT t) → l.Pairwise lts → l.length ≤ 1000 → Q (.tup (l.map PV.str)) M
theorem sp_sets_in_len {K : Kf} {n : Nat} {vs : List PV} {M : PHp} {Q : PVK} {E : PXK} (h : sp_sets_in K n vs M Q E) : vs.length = 1 := by
  obtain ⟨_, _, _, rfl, _⟩ := h; rfl
theorem sp_sets_in_zero {K : Kf} {vs : List PV} {M : PHp} {Q : PVK} {E : PXK} (h : sp_sets_in K 0 vs M Q E) : False := by
  obtain ⟨_, _, _, rfl, _, h, _⟩ := h; exact absurd h (by omega)

theorem ok_sets_in {P : Program} {w : World} {K : Kf} {mg : Str → Option Value} {base : Heap} (h0 : Here K mg "sets_in" s_sets_in ["tree"]) (T : Blt mg) (XC : Xc K mg) (Su : Sure P base)  : ∀ n : Nat, Callee P w K mg base (34 + n) "sets_in" ["tree"] (sp_sets_in K n)
  | 0 => (Callee.never (k := 33) h0 sc_sets_in).imp fun _ _ _ _ h => (sp_sets_in_zero h).elim
  | n + 1 => by
    have C_sets_in := ok_sets_in (P := P) (w := w) (base := base) h0 T XC Su  n
    refine ok_of (k := 34 + n) h0 sc_sets_in (fun vs M Q E h => sp_sets_in_len h) (fun f cdv A outer s H E hr => ⟨_, (psscons (psif (ptval (pcallB (cIsiK (K := K)) (by rfl) T.b_isinstance (by decide +kernel) (pacons (pv 0) (pacons (pbltn (p := .ty "str") (v := .ty "str") (by rfl) T.b_str (by decide +kernel) rfl (fun _ => .ty _)) panil)))) (pssone (psret (ptup panil))) pssnil)
      (psscons (psset 1 sc_sets_in.nd (plst (pacons (pixK (K := K) (pv 0) pinT) panil)))
      (psscons (psfor PassesOwn.never rfl (piseqK (K := K) (pixK (K := K) (pv 0) pinT)) (pgname (i := 2) sc_sets_in.nd) (pssone (psfor PassesOwn.never rfl (piseqK (K := K) (pcall C_sets_in (by exact hr.mono (by first | decide | omega)) (pacons (pv 2) panil))) (pgname (i := 3) sc_sets_in.nd) (pssone (psif (ptcmp (opNotIn (K := K)) (pv 3) (pv 1) rfl) (pssone (psexpr (pbmK (K := K) PySem.F.plainAttrs_list PySem.F.slot_list_append PySem.F.type_list_append mAppend (pv 1) (pacons (pv 3) panil)))) pssnil)))))
      (pssone (psret (pcallTy (cTupleK (K := K)) (by rfl) T.b_tuple (by decide +kernel) (pacons (pcallB (cSortDK (K := K) (by exact hr.units)) (by rfl) T.b_sorted (by decide +kernel) (pacons (pv 1) panil)) panil))))))), fun vs M Q Ep h => ?_⟩)
    obtain ⟨t, us, rs, rfl, tok, hn, n20, k⟩ := h
    have h0 : Hd [] M M [] := .start
    cases t with
    | leaf x =>
      walk_at "go"
      exact ⟨_, .refl _, k [] (fun x => by simp [nmT_leaf]) List.Pairwise.nil (by decide)⟩
    | node n' cs =>
      obtain ⟨r, hr, rfl, hl, hk⟩ := tok.kid
      have less := offN_len hr
      have rle : rs.length ≤ 19 := by omega
      walk_at "go"
      refine ald h0 fun l hl h0 => ?_
      walk_at "on"
      refine ⟨fun i σ M1 => ∃ (fs : List Str) (w2 w3 : Option PV), σ = [some (Tr.node r.nm cs).pv, some (.ref l), w2, w3] ∧ fs.Nodup ∧ (∀ x, x ∈ fs ↔ x = r.nm ∨ ∃ j, j < i ∧ ∃ c, cs[j]? = some c ∧ x ∈ nmT c) ∧ Hd [] M M1 [(l, .lst (fs.map PV.str))], ⟨_, _, .refl _, .refl _, [r.nm], _, _, rfl, by simp, fun x => by simp, h0 _⟩, ?_, ?_, ?_⟩
      · intros; trivial
      · clear h0
        rintro i x σ M1 hx ⟨fs, w2, w3, rfl, nd, hfs, h0⟩
        obtain ⟨c, hc, rfl⟩ := kid_of hx
        have tc := hk c (List.mem_of_getElem? hc)
        walk_at "on"
        refine ⟨c, us, offN rs r.nm, rfl, tc, by omega, by omega, fun l2 hl2 nd2 len2 => ?_⟩
        walk_at "on"
        refine ⟨fun i2 σ M2 => ∃ (fs2 : List Str) (w3 : Option PV), σ = [some (Tr.node r.nm cs).pv, some (.ref l), some c.pv, w3] ∧ fs2.Nodup ∧ (∀ x, x ∈ fs2 ↔ x ∈ fs ∨ x ∈ l2.take i2) ∧ Hd [] M M2 [(l, .lst (fs2.map PV.str))], ⟨_, _, .refl _, .refl _, fs, _, rfl, nd, fun x => by simp, h0⟩, ?_, ?_, ?_⟩
        · intros; trivial
        · clear h0
          rintro i2 x σ M2 hx ⟨fs2, w3, rfl, nd3, hfs2, h0⟩
          obtain ⟨y, hy, rfl⟩ := str_at hx
          have fle : fs2.length ≤ rs.length := tok.nlen nd3 fun z hz => by
            rcases (hfs2 z).mp hz with q | q
            · rcases (hfs z).mp q with q | ⟨j, _, d, hd, q⟩
              · exact nmT_node.mpr (.inl q)
              · exact nmT_node.mpr (.inr ⟨d, List.mem_of_getElem? hd, q⟩)
            · exact nmT_node.mpr (.inr ⟨c, List.mem_of_getElem? hc, (hl2 z).mp (List.mem_of_mem_take q)⟩)
          walk_at "on"
          refine br_ndec (fun h => ?_) (fun h => ?_)
          · walk_at "on"
            refine ⟨_, h0.get 0 rfl, by rw [List.length_map, sizeLine_eq]; omega, ?_⟩
            refine ⟨_, _, by walk_at "subs", .refl _, fs2 ++ [y], _, rfl, ?_, fun z => ?_, by rw [List.map_append]; walk_at "hd"⟩
            · rw [List.nodup_append]
              exact ⟨nd3, by simp, fun a ha b hb e => h (by rw [List.mem_singleton.mp hb] at e; exact e ▸ ha)⟩
            · rw [take_succ' hy, List.mem_append, List.mem_append, hfs2 z, or_assoc]
          · walk_at "on"
            refine ⟨_, _, by walk_at "subs", .refl _, fs2, _, rfl, nd3, fun z => ?_, h0⟩
            rw [take_succ' hy, List.mem_append, hfs2 z, List.mem_singleton]
            refine ⟨fun q => q.elim .inl fun q => .inr (.inl q), fun q => ?_⟩
            rcases q with q | q | q
            · exact .inl q
            · exact .inr q
            · rw [q]; exact (hfs2 y).mp h
        · clear h0
          rintro σ M2 ⟨fs2, w3, rfl, nd3, hfs2, h0⟩
          rw [List.length_map, List.take_of_length_le (Nat.le_refl _)] at hfs2
          refine ⟨_, _, by walk_at "subs", .refl _, fs2, _, _, rfl, nd3, fun z => ?_, h0⟩
          rw [hfs2 z, hfs z, hl2 z]
          constructor
          · rintro ((q | ⟨j, hj, d, hd, q⟩) | q)
            · exact .inl q
            · exact .inr ⟨j, by omega, d, hd, q⟩
            · exact .inr ⟨i, by omega, c, hc, q⟩
          · rintro (q | ⟨j, hj, d, hd, q⟩)
            · exact .inl (.inl q)
            · by_cases e : j = i
              · subst e; rw [hc] at hd; cases hd; exact .inr q
              · exact .inl (.inr ⟨j, by omega, d, hd, q⟩)
      · clear h0
        rintro σ M1 ⟨fs, w2, w3, rfl, nd, hfs, h0⟩
        have hall : ∀ x, x ∈ fs ↔ x ∈ nmT (.node r.nm cs) := fun x => by
          rw [hfs x, nmT_node, pvs_len]
          constructor
          · rintro (q | ⟨j, hj, d, hd, q⟩)
            · exact .inl q
            · exact .inr ⟨d, List.mem_of_getElem? hd, q⟩
          · rintro (q | ⟨d, hd, q⟩)
            · exact .inl q
            · obtain ⟨j, hj⟩ := List.getElem?_of_mem hd
              exact .inr ⟨j, lt_of_get hj, d, hj, q⟩
        obtain ⟨qs, e, perm, sn⟩ := sort_strs2 nd
        have ss := strs_sortable fs
        walk_at "on"
        refine ⟨strs_pure40, ss.1, ss.2, fun p hp => ?_⟩
        rw [e]
        walk_at "on"
        refine ⟨M, ?_, k qs (fun x => by rw [perm.mem_iff]; exact hall x) sn ?_⟩
        · exact fun b o hb => Sub.new hp b o (h0.sub b o hb)
        · have := tok.nlen (perm.nodup_iff.mpr nd) fun x hx => (hall x).mp (perm.mem_iff.mp hx)
          omega
  
theorem Hd.addn {S : List Addr} {M0 M M' : PHp} {L : List (Addr × MO)} {p : Addr} {o : MO} (h : Hd S M0 M L) (k : Sub M M') (hp : M p = none) (hp' : M' p = some o) : Hd S M0 M' ((p, o) :: L) :=
  (h.new (o := o) hp).step fun b u hb => by
    by_cases e : b = p
    · subst e; rw [updM_same] at hb; cases hb; exact hp'
    · rw [updM_ne e] at hb; exact k _ _ hb
mutual
/-- the paths to the nodes of a set -/
def pathsT (x : Str) : Tr → List (List Int)
  | .leaf _ => []
  | .node n cs => (if n = x then [[]] else []) ++ pathsTs x cs 0
def pathsTs (x : Str) : List Tr → Nat → List (List Int)
  | [], _ => []
  | c :: r, k => (pathsT x c).map ((k : Int) :: ·) ++ pathsTs x r (k + 1)
end
theorem pathsT_leaf {x y : Str} : pathsT x (.leaf y) = [] := by unfold pathsT; rfl
theorem pathsT_node {x n : Str} {cs : List Tr} : pathsT x (.node n cs) = (if n = x then [[]] else []) ++ pathsTs x cs 0 := by conv => lhs; unfold pathsT
theorem pathsTs_nil {x : Str} {k : Nat} : pathsTs x [] k = [] := by unfold pathsTs; rfl
theorem pathsTs_cons {x : Str} {c : Tr} {r : List Tr} {k : Nat} : pathsTs x (c :: r) k = (pathsT x c).map ((k : Int) :: ·) ++ pathsTs x r (k + 1) := by conv => lhs; unfold pathsTs
theorem pathsTs_snoc {x : Str} {c : Tr} : ∀ {a : List Tr} {k : Nat}, pathsTs x (a ++ [c]) k = pathsTs x a k ++ (pathsT x c).map (((k + a.length : Nat) : Int) :: ·)
  | [], k => by rw [List.nil_append, pathsTs_cons, pathsTs_nil, pathsTs_nil]; simp
  | y :: a, k => by rw [List.cons_append, pathsTs_cons, pathsTs_cons, pathsTs_snoc (a := a), List.append_assoc, show k + 1 + a.length = k + (y :: a).length by rw [List.length_cons]; omega]
mutual
theorem paths_len {x : Str} : ∀ {t : Tr}, (pathsT x t).length ≤ szT t
  | .leaf y => by rw [pathsT_leaf]; exact Nat.zero_le _
  | .node n cs => by
    unfold szT; rw [pathsT_node, List.length_append]
    have := paths_lens (x := x) (cs := cs) (k := 0)
    have : (if n = x then [[]] else ([] : List (List Int))).length ≤ 1 := by split <;> simp
    omega
theorem paths_lens {x : Str} : ∀ {cs : List Tr} {k : Nat}, (pathsTs x cs k).length ≤ szTs cs
  | [], k => by rw [pathsTs_nil]; exact Nat.zero_le _
  | c :: r, k => by
    unfold szTs; rw [pathsTs_cons, List.length_append, List.length_map]
    have := paths_len (x := x) (t := c)
    have := paths_lens (x := x) (cs := r) (k := k + 1)
    omega
end
theorem pathsTs_mem {x : Str} {q : List Int} : ∀ {cs : List Tr} {k : Nat}, q ∈ pathsTs x cs k → ∃ (i : Nat) (c : Tr) (q' : List Int), cs[i]? = some c ∧ q' ∈ pathsT x c ∧ q = ((k + i : Nat) : Int) :: q'
  | [], k, h => by rw [pathsTs_nil] at h; cases h
  | c :: r, k, h => by
    rw [pathsTs_cons] at h
    rcases List.mem_append.mp h with h | h
    · obtain ⟨q', h1, rfl⟩ := List.mem_map.mp h
      exact ⟨0, c, q', rfl, h1, rfl⟩
    · obtain ⟨i, d, q', h1, h2, h3⟩ := pathsTs_mem h
      exact ⟨i + 1, d, q', by simpa using h1, h2, by rw [h3, show k + 1 + i = k + (i + 1) by omega]⟩
theorem paths_at {x : Str} : ∀ {n : Nat} {t : Tr}, BT n t → ∀ {q : List Int}, q ∈ pathsT x t → q.length < n ∧ ∃ cs, trAt q t = some (.node x cs)
  | _, .leaf y, _, q, h => by rw [pathsT_leaf] at h; cases h
  | _, .node m cs, .node hl hc, q, h => by
    rw [pathsT_node] at h
    rcases List.mem_append.mp h with h | h
    · by_cases e : m = x
      · rw [if_pos e, List.mem_singleton] at h
        subst h e
        exact ⟨by simp, cs, rfl⟩
      · rw [if_neg e] at h; cases h
    · obtain ⟨i, c, q', h1, h2, rfl⟩ := pathsTs_mem h
      obtain ⟨h3, ds, h4⟩ := paths_at (hc c (List.mem_of_getElem? h1)) h2
      refine ⟨by rw [List.length_cons]; omega, ds, ?_⟩
      rw [trAt_node (c := c) (by omega) (by rw [Int.toNat_natCast, Nat.zero_add]; exact h1)]
      exact h4
/-- the program's paths and the law's nodes -/
abbrev abEs (q : List Int) (t : Tr) : List PV := (abv q t).map fun z => .tup [.str z.1, .int z.2]
theorem abEs_cons {i : Nat} {q : List Int} {n : Str} {cs : List Tr} {c : Tr} (h : cs[i]? = some c) : abEs ((i : Int) :: q) (.node n cs) = .tup [.str n, .int (i : Int)] :: abEs q c := by
  show (abv _ _).map _ = _
  rw [abv_node (c := c) (by rw [Int.toNat_natCast]; exact h)]; rfl
mutual
theorem nodes_paths {x : Str} : ∀ {t : Tr} {p : List Int} {s : List PV}, ((nodesT t p s).filter (bE x)).map (fun e => (e.1, e.2.2)) = (pathsT x t).map fun q => (p ++ q, s ++ abEs q t)
  | .leaf y, p, s => by rw [nodesT_leaf, pathsT_leaf]; rfl
  | .node n cs, p, s => by
    have h := nodes_pathss (x := x) (n := n) (full := cs) (cs := cs) (k := 0) (p := p) (s := s) rfl
    rw [nodesT_node, pathsT_node, List.map_append, ← h]
    by_cases e : n = x
    · have e2 : abEs [] (.node n cs) = [] := rfl
      rw [List.filter_cons_of_pos (show bE x (p, Tr.node n cs, s) = true from decide_eq_true e), if_pos e]
      simp only [List.map_cons, List.map_nil, e2, List.append_nil, List.cons_append, List.nil_append]
    · rw [List.filter_cons_of_neg (by show ¬ bE x (p, Tr.node n cs, s) = true; exact fun q => e (of_decide_eq_true q)), if_neg e]; rfl
theorem nodes_pathss {x : Str} : ∀ {n : Str} {full cs : List Tr} {k : Nat} {p : List Int} {s : List PV}, full.drop k = cs → ((nodesTs n cs k p s).filter (bE x)).map (fun e => (e.1, e.2.2)) = (pathsTs x cs k).map fun q => (p ++ q, s ++ abEs q (.node n full))
  | n, full, [], k, p, s, _ => by rw [nodesTs_nil, pathsTs_nil]; rfl
  | n, full, c :: r, k, p, s, h => by
    have hk : full[k]? = some c := by
      have e := congrArg (fun l => l[0]?) h
      simpa [List.getElem?_drop] using e
    have hr : full.drop (k + 1) = r := by
      have e := congrArg List.tail h
      rw [List.tail_drop] at e
      exact e
    rw [nodesTs_cons, pathsTs_cons, List.filter_append, List.map_append, List.map_append, nodes_paths, nodes_pathss hr, List.map_map]
    congr 1
    refine List.map_congr_left fun q _ => ?_
    show (p ++ [(k : Int)] ++ q, s ++ [PV.tup [.str n, .int (k : Int)]] ++ abEs q c) = (p ++ (k : Int) :: q, s ++ abEs ((k : Int) :: q) (.node n full))
    rw [abEs_cons hk, List.append_assoc, List.append_assoc]; rfl
end
def sp_paths_of (K : Kf) (n : Nat) : PSpec := fun vs M Q _ => ∃ (t : Tr) (x : Str), vs = [t.pv, .str x] ∧ BT n t ∧ szT t ≤ 100000 ∧ n ≤ 20 ∧
  ∀ l M', M l = none → Sub M M' → M' l = some (.lst ((pathsT x t).map iv)) → Q (.ref l) M'
theorem sp_paths_of_len {K : Kf} {n : Nat} {vs : List PV} {M : PHp} {Q : PVK} {E : PXK} (h : sp_paths_of K n vs M Q E) : vs.length = 2 := by
  obtain ⟨_, _, rfl, _⟩ := h; rfl
theorem sp_paths_of_zero {K : Kf} {vs : List PV} {M : PHp} {Q : PVK} {E : PXK} (h : sp_paths_of K 0 vs M Q E) : False := by
  obtain ⟨_, _, rfl, h, _⟩ := h; cases h
theorem ivs_at {qs : List (List Int)} {i : Nat} {p : PV} (h : (qs.map iv)[i]? = some p) : ∃ q, qs[i]? = some q ∧ p = iv q := by
  rw [List.getElem?_map] at h
  cases e : qs[i]? with
  | none => rw [e] at h; cases h
  | some z => rw [e] at h; exact ⟨z, rfl, (Option.some.inj h).symm⟩

theorem ok_paths_of {P : Program} {w : World} {K : Kf} {mg : Str → Option Value} {base : Heap} (h0 : Here K mg "paths_of" s_paths_of ["tree", "name"]) (T : Blt mg) (XC : Xc K mg) (Su : Sure P base)  : ∀ n : Nat, Callee P w K mg base (34 + n) "paths_of" ["tree", "name"] (sp_paths_of K n)
  | 0 => (Callee.never (k := 33) h0 sc_paths_of).imp fun _ _ _ _ h => (sp_paths_of_zero h).elim
  | n + 1 => by
    have C_paths_of := ok_paths_of (P := P) (w := w) (base := base) h0 T XC Su  n
    refine ok_of (k := 34 + n) h0 sc_paths_of (fun vs M Q E h => sp_paths_of_len h) (fun f cdv A outer s H E hr => ⟨_, (psscons (psif (ptval (pcallB (cIsiK (K := K)) (by rfl) T.b_isinstance (by decide +kernel) (pacons (pv 0) (pacons (pbltn (p := .ty "str") (v := .ty "str") (by rfl) T.b_str (by decide +kernel) rfl (fun _ => .ty _)) panil)))) (pssone (psret (plst panil))) pssnil)
      (psscons (psset 2 sc_paths_of.nd (plst panil))
      (psscut (psif (ptcmp (opEqK (K := K) (by exact hr.units)) (pixK (K := K) (pv 0) pinT) (pv 1) (nomark _)) (pssone (psexpr (pbmK (K := K) PySem.F.plainAttrs_list PySem.F.slot_list_append PySem.F.type_list_append mAppend (pv 2) (pacons (ptup panil) panil)))) pssnil)
      (psscons (psfor PassesOwn.never rfl (pienumerate (by rfl) T.b_enumerate (pacons (pixK (K := K) (pv 0) pinT) panil)) (pgtup rfl (pgscons (pgname (i := 3) sc_paths_of.nd) (pgscons (pgname (i := 4) sc_paths_of.nd) pgsnil))) (pssone (psfor PassesOwn.never rfl (piseqK (K := K) (pcall C_paths_of (by exact hr.mono (by first | decide | omega)) (pacons (pv 4) (pacons (pv 1) panil)))) (pgname (i := 5) sc_paths_of.nd) (pssone (psexpr (pbmK (K := K) PySem.F.plainAttrs_list PySem.F.slot_list_append PySem.F.type_list_append mAppend (pv 2) (pacons (pop opAdd (ptup (pacons (pv 3) panil)) (pv 5)) panil)))))))
      (pssone (psret (pv 2))))))), fun vs M Q Ep h => ?_⟩)
    obtain ⟨t, x, rfl, hb, sz, n20, k⟩ := h
    have h0 : Hd [] M M [] := .start
    cases hb with
    | leaf =>
      walk_at "go"
      intro l hl
      exact ⟨_, .refl _, k l _ hl (.new hl) (by rw [pathsT_leaf]; exact updM_same)⟩
    | @node _ m cs hl hc =>
      have szs : szTs cs ≤ 99999 := by unfold szT at sz; omega
      have pl : (Tr.pvs cs).length = cs.length := pvs_len
      walk_at "go"
      refine ald h0 fun l hl2 h0 => ?_
      walk_at "on"
      refine ⟨fun σ M1 => σ = [some (Tr.node m cs).pv, some (.str x), some (.ref l), none, none, none] ∧ Hd [] M M1 [(l, .lst ((if m = x then [[]] else ([] : List (List Int))).map iv))], ?_, ?_⟩
      · walk_at "on"
        refine br_dec (fun h => ?_) (fun h => ?_)
        · walk_at "on"
          refine ⟨_, (h0 _).get 0 rfl, by rw [sizeLine_eq]; decide, ?_⟩
          refine ⟨_, _, by walk_at "subs", .refl _, rfl, ?_⟩
          rw [if_pos h]
          exact (h0 _).up0
        · walk_at "on"
          refine ⟨_, _, by walk_at "subs", .refl _, rfl, ?_⟩
          rw [if_neg h]
          exact h0 _
      clear h0
      rintro σ M1 ⟨rfl, h0⟩
      have prl : (if m = x then [[]] else ([] : List (List Int))).length ≤ 1 := by split <;> simp
      generalize hpre : (if m = x then [[]] else ([] : List (List Int))) = pre at h0 prl
      walk_at "on"
      refine ⟨fun i σ M1 => ∃ (w3 w4 w5 : Option PV), σ = [some (Tr.node m cs).pv, some (.str x), some (.ref l), w3, w4, w5] ∧ Hd [] M M1 [(l, .lst ((pre ++ pathsTs x (cs.take i) 0).map iv))], ⟨_, _, .refl _, .refl _, _, _, _, rfl, by rw [List.take_zero, pathsTs_nil, List.append_nil]; exact h0⟩, ?_, ?_, ?_⟩
      · intros; trivial
      · clear h0
        rintro i z σ M1 hz ⟨w3, w4, w5, rfl, h0⟩
        obtain ⟨z2, hz2, rfl⟩ := enP_get hz
        obtain ⟨c, hc2, rfl⟩ := kid_of hz2
        have hcm := List.mem_of_getElem? hc2
        have il := lt_of_get hc2
        have sz2 := szTs_get hc2
        have szc := szTs_mem hcm
        have tl : (cs.take i).length = i := by rw [List.length_take]; omega
        have pln := paths_lens (x := x) (cs := cs.take i) (k := 0)
        have plc := paths_len (x := x) (t := c)
        walk_at "on"
        refine ⟨c, x, rfl, hc c hcm, by omega, by omega, fun l2 M2 hl3 sb2 hM2 => ?_⟩
        replace h0 := h0.addn sb2 hl3 hM2
        walk_at "on"
        refine ⟨fun j σ M3 => ∃ (w5 : Option PV), σ = [some (Tr.node m cs).pv, some (.str x), some (.ref l), some (.int (i : Int)), some c.pv, w5] ∧ Hd [] M M3 [(l2, .lst ((pathsT x c).map iv)), (l, .lst ((pre ++ pathsTs x (cs.take i) 0 ++ ((pathsT x c).take j).map ((i : Int) :: ·)).map iv))], ⟨_, _, by walk_at "subs", .refl _, _, rfl, by rw [List.take_zero, List.map_nil, List.append_nil]; exact h0⟩, fun j σ M3 ⟨_, _, h⟩ => .inl (h.get 0 rfl), ?_, ?_⟩
        · clear h0
          rintro j z σ M3 hz ⟨w5, rfl, h0⟩
          obtain ⟨q, hq, rfl⟩ := ivs_at hz
          have jl := lt_of_get hq
          have ql := (paths_at (hc c hcm) (List.mem_of_getElem? hq)).1
          walk_at "on"
          refine ⟨by rw [List.length_map, List.length_singleton, sizeLine_eq]; omega, ?_⟩
          walk_at "on"
          refine ⟨_, h0.get 1 rfl, by rw [List.length_map, List.length_append, List.length_append, List.length_map, List.length_take, sizeLine_eq]; omega, ?_⟩
          refine ⟨_, _, by walk_at "subs", .refl _, _, rfl, ?_⟩
          have e : (pre ++ pathsTs x (cs.take i) 0 ++ ((pathsT x c).take (j + 1)).map ((i : Int) :: ·)).map iv = (pre ++ pathsTs x (cs.take i) 0 ++ ((pathsT x c).take j).map ((i : Int) :: ·)).map iv ++ [iv ((i : Int) :: q)] := by
            rw [take_succ' hq]; simp only [List.map_append, List.append_assoc]; rfl
          rw [e]
          exact h0.up1
        · clear h0
          rintro σ M3 ⟨w5, rfl, h0⟩
          rw [List.length_map, List.take_of_length_le (Nat.le_refl _)] at h0
          refine ⟨_, _, by walk_at "subs", .refl _, _, _, _, rfl, ?_⟩
          rw [take_succ' hc2, pathsTs_snoc, tl, Nat.zero_add, ← List.append_assoc]
          exact h0.less (by simp)
      · clear h0
        rintro σ M1 ⟨w3, w4, w5, rfl, h0⟩
        rw [enP_len, pl, List.take_of_length_le (Nat.le_refl _)] at h0
        walk_at "on"
        refine ⟨_, .refl _, k l _ ?_ h0.sub ?_⟩
        · rcases h0.fr _ List.mem_cons_self with q | q
          · exact q
          · cases q
        · rw [pathsT_node, hpre]; exact h0.get 0 rfl
  
def sp_apply_step (K : Kf) : PSpec := fun vs M Q E => ∃ (rs : List Row) (t : Tr) (u x : Str) (ns : List Str), vs = [gameV rs t, .tup [.str "cut", .str u, .str x, strsV ns]] ∧ RwOk rs ∧ rs.length ≤ 400 ∧ BT 9 t ∧ ns.length ≤ 400 ∧ (∀ n ∈ ns, n.length ≤ 1000) ∧ (∀ r ∈ rs, r.nm = u → AT u r.ws.length t) ∧
  (∀ ru r qs, COk rs t u x ns ru r → qs.Perm (offN rs x ++ rowsN ns r.ow r.ws) → SortedN qs → Q (gameV qs (cutT u x ns none t)) M) ∧
  ((¬ ∃ ru r, COk rs t u x ns ru r) → ∀ M', Sub M M' → E (BadS K) none M')
theorem sp_apply_step_len {K : Kf} {vs : List PV} {M : PHp} {Q : PVK} {E : PXK} (h : sp_apply_step K vs M Q E) : vs.length = 2 := by
  obtain ⟨_, _, _, _, _, rfl, _⟩ := h; rfl

theorem ok_apply_step {P : Program} {w : World} {K : Kf} {mg : Str → Option Value} {base : Heap} (h0 : Here K mg "apply_step" s_apply_step ["game", "step"]) (T : Blt mg) (XC : Xc K mg) (Su : Sure P base) (C_cut_up : CalleeR (L2.CX P w) P w K mg base 44 "cut_up" ["game", "upper", "name", "names"] (sp_cut_up K)) : CalleeR (L2.CX P w) P w K mg base 45 "apply_step" ["game", "step"] (sp_apply_step K) := by
  refine okR_z h0 sc_apply_step (fun vs M Q E h => sp_apply_step_len h) (fun f cdv A outer s H E Ep hr air tk own => ⟨_, (pssone (psmatch (pv 1) (pmcase rfl (Caps.cons sc_apply_step.nd (i := 2) rfl (Or.inl rfl) (by first | exact Or.inl rfl | exact Or.inr rfl) Caps.nil) pssdead
      (pmcase rfl (Caps.cons sc_apply_step.nd (i := 2) rfl (Or.inl rfl) (by first | exact Or.inl rfl | exact Or.inr rfl) (Caps.cons sc_apply_step.nd (i := 3) rfl (Or.inl rfl) (by first | exact Or.inl rfl | exact Or.inr rfl) Caps.nil)) pssdead
      (pmcase rfl (Caps.cons sc_apply_step.nd (i := 2) rfl (Or.inl rfl) (by first | exact Or.inl rfl | exact Or.inr rfl) Caps.nil) pssdead
      (pmcase rfl (Caps.cons sc_apply_step.nd (i := 3) rfl (Or.inl rfl) (by first | exact Or.inl rfl | exact Or.inr rfl) (Caps.cons sc_apply_step.nd (i := 4) rfl (Or.inl rfl) (by first | exact Or.inl rfl | exact Or.inr rfl) (Caps.cons sc_apply_step.nd (i := 5) rfl (Or.inl rfl) (by first | exact Or.inl rfl | exact Or.inr rfl) Caps.nil))) pssdead
      (pmcase rfl (Caps.cons sc_apply_step.nd (i := 3) rfl (Or.inl rfl) (by first | exact Or.inl rfl | exact Or.inr rfl) Caps.nil) pssdead
      (pmcase rfl (Caps.cons sc_apply_step.nd (i := 3) rfl (Or.inl rfl) (by first | exact Or.inl rfl | exact Or.inr rfl) (Caps.cons sc_apply_step.nd (i := 6) rfl (Or.inl rfl) (by first | exact Or.inl rfl | exact Or.inr rfl) Caps.nil)) pssdead
      (pmcase rfl (Caps.cons sc_apply_step.nd (i := 3) rfl (Or.inl rfl) (by first | exact Or.inl rfl | exact Or.inr rfl) (Caps.cons sc_apply_step.nd (i := 7) rfl (Or.inl rfl) (by first | exact Or.inl rfl | exact Or.inr rfl) Caps.nil)) pssdead
      (pmcase rfl (Caps.cons sc_apply_step.nd (i := 3) rfl (Or.inl rfl) (by first | exact Or.inl rfl | exact Or.inr rfl) (Caps.cons sc_apply_step.nd (i := 8) rfl (Or.inl rfl) (by first | exact Or.inl rfl | exact Or.inr rfl) (Caps.cons sc_apply_step.nd (i := 9) rfl (Or.inl rfl) (by first | exact Or.inl rfl | exact Or.inr rfl) Caps.nil))) pssdead
      (pmcase rfl (Caps.cons sc_apply_step.nd (i := 3) rfl (Or.inl rfl) (by first | exact Or.inl rfl | exact Or.inr rfl) (Caps.cons sc_apply_step.nd (i := 8) rfl (Or.inl rfl) (by first | exact Or.inl rfl | exact Or.inr rfl) (Caps.cons sc_apply_step.nd (i := 10) rfl (Or.inl rfl) (by first | exact Or.inl rfl | exact Or.inr rfl) (Caps.cons sc_apply_step.nd (i := 9) rfl (Or.inl rfl) (by first | exact Or.inl rfl | exact Or.inr rfl) Caps.nil)))) pssdead
      (pmcase rfl (Caps.cons sc_apply_step.nd (i := 11) rfl (Or.inl rfl) (by first | exact Or.inl rfl | exact Or.inr rfl) (Caps.cons sc_apply_step.nd (i := 3) rfl (Or.inl rfl) (by first | exact Or.inl rfl | exact Or.inr rfl) (Caps.cons sc_apply_step.nd (i := 12) rfl (Or.inl rfl) (by first | exact Or.inl rfl | exact Or.inr rfl) Caps.nil))) (pssone (psret (pcallR C_cut_up air (by exact hr.mono (by first | decide | omega)) (pacons (pv 0) (pacons (pv 11) (pacons (pv 3) (pacons (pv 12) panil)))))))
      (pmcase rfl (Caps.cons sc_apply_step.nd (i := 11) rfl (Or.inl rfl) (by first | exact Or.inl rfl | exact Or.inr rfl) (Caps.cons sc_apply_step.nd (i := 12) rfl (Or.inl rfl) (by first | exact Or.inl rfl | exact Or.inr rfl) (Caps.cons sc_apply_step.nd (i := 3) rfl (Or.inl rfl) (by first | exact Or.inl rfl | exact Or.inr rfl) Caps.nil))) pssdead
      (pmwild pssdead)))))))))))))), fun vs M Q h => ?_⟩)
  obtain ⟨rs, t, u, x, ns, rfl, ok, rle, hb, nle, nl, hat, k1, k2⟩ := h
  walk_at "go"
  refine ⟨_, rfl, fun h => absurd h (by simp), fun _ => ?_⟩
  refine case_len (by simp) ?_
  refine case_len (by simp) ?_
  refine case_no (by decide) ?_
  refine case_len (by simp) ?_
  refine case_len (by simp) ?_
  refine case_len (by simp) ?_
  refine case_no (by decide) ?_
  refine case_len (by simp) ?_
  refine case_yes rfl ?_
  dsimp only [setAllP]
  walk_at "on"
  refine ⟨rs, t, u, x, ns, rfl, ok, rle, hb, nle, nl, hat, fun ru r qs c p sn => ⟨_, .refl _, k1 ru r qs c p sn⟩, k2⟩

def sp_step_fits (K : Kf) : PSpec := fun vs M Q _ => ∃ (rs : List Row) (t : Tr) (u x : Str) (ns : List Str), vs = [gameV rs t, .tup [.str "cut", .str u, .str x, strsV ns]] ∧ RwOk rs ∧ rs.length ≤ 400 ∧ BT 9 t ∧ ns.length ≤ 400 ∧ (∀ n ∈ ns, n.length ≤ 1000) ∧ (∀ r ∈ rs, r.nm = u → AT u r.ws.length t) ∧
  ((∃ ru r, COk rs t u x ns ru r) → Q (.bl true) M) ∧ ((¬ ∃ ru r, COk rs t u x ns ru r) → ∀ M', Sub M M' → Q (.bl false) M')
theorem sp_step_fits_len {K : Kf} {vs : List PV} {M : PHp} {Q : PVK} {E : PXK} (h : sp_step_fits K vs M Q E) : vs.length = 2 := by
  obtain ⟨_, _, _, _, _, rfl, _⟩ := h; rfl

theorem ok_step_fits {P : Program} {w : World} {K : Kf} {mg : Str → Option Value} {base : Heap} (h0 : Here K mg "step_fits" s_step_fits ["game", "step"]) (T : Blt mg) (XC : Xc K mg) (Su : Sure P base) (C_apply_step : CalleeR (L2.CX P w) P w K mg base 45 "apply_step" ["game", "step"] (sp_apply_step K)) : Callee P w K mg base 46 "step_fits" ["game", "step"] (sp_step_fits K) := by
  refine ok_of h0 sc_step_fits (fun vs M Q E h => sp_step_fits_len h) (fun f cdv A outer s H E hr => ⟨_, (psscons (pstryon rfl rfl rfl ⟨rfl, by decide, .inl XC.g_BadStep⟩ (fun H1 pw pn xe air own => (pssone (psexpr (pcallR C_apply_step air (by exact hr.mono (by first | decide | omega)) (pacons (pv 0) (pacons (pv 1) panil))))))
      (fun a oe cls d pn hz hv => (pssone (psret pbl))))
      (pssone (psret pbl))), fun vs M Q Ep h => ?_⟩)
  obtain ⟨rs, t, u, x, ns, rfl, ok, rle, hb, nle, nl, hat, k1, k2⟩ := h
  walk_at "go"
  refine ⟨rs, t, u, x, ns, rfl, ok, rle, hb, nle, nl, hat, fun ru r qs c p sn => ?_, fun nc M' sb => ⟨?_, ?_⟩⟩
  · walk_at "on"
    exact ⟨_, .refl _, k1 ⟨ru, r, c⟩⟩
  · exact XC.m_BadStep
  · walk_at "on"
    exact ⟨_, .refl _, k2 nc M' sb⟩

theorem pair_txt (x : Str) (k : Int) : TxtD 40 (.tup [.str x, .int k]) := by
  refine .tup (by show 2 ≤ 16777216; decide) fun z hz => ?_
  rcases List.mem_cons.mp hz with rfl | hz
  · exact .str _
  · rw [List.mem_singleton.mp hz]; exact .int _
theorem abE_inj {a b : Str × Int} : abE a = abE b ↔ a = b := by
  obtain ⟨a1, a2⟩ := a
  obtain ⟨b1, b2⟩ := b
  simp [abE]
theorem abE_mem {a : Str × Int} {l : List (Str × Int)} : abE a ∈ l.map abE ↔ a ∈ l := by
  rw [List.mem_map]
  exact ⟨fun ⟨b, hb, e⟩ => abE_inj.mp e ▸ hb, fun h => ⟨a, h, rfl⟩⟩
theorem abE_txt {l : List (Str × Int)} : ∀ z ∈ l.map abE, TxtD 40 z := fun z hz => by
  obtain ⟨w, _, rfl⟩ := List.mem_map.mp hz
  exact pair_txt w.1 w.2
theorem abE_at {l : List (Str × Int)} {i : Nat} {p : PV} (h : (l.map abE)[i]? = some p) : ∃ z, l[i]? = some z ∧ p = abE z := by
  rw [List.getElem?_map] at h
  cases e : l[i]? with
  | none => rw [e] at h; cases h
  | some z => rw [e] at h; exact ⟨z, rfl, (Option.some.inj h).symm⟩
theorem prs_sortable (l : List (Str × Int)) : PySem.W.AllAlike ((l.map abE).map toD) ∧ PySem.W.Sortable ((l.map abE).map toD) := by
  rw [List.map_map]
  exact ⟨PySem.W.AllAlike.of (enc := fun r : Str × Int => toD (abE r)) fun a b => rfl, PySem.W.Sortable.tuples (enc := fun r : Str × Int => toD (abE r)) fun r => ⟨_, _, rfl⟩⟩
theorem prs_pure {l : List (Str × Int)} : ∀ x ∈ l.map abE, PureD 40 x := fun x hx => (abE_txt x hx).pure
theorem cut_frm {α : Type} (l : List α) (i : Nat) : cutL l (some (i : Int)) none = l.drop i := by
  unfold cutL
  rw [HT.sIx_none, HT.sIx_nat]
  by_cases h : i ≤ l.length
  · rw [Nat.min_eq_left h, List.take_of_length_le (by rw [List.length_drop]; omega)]
  · have h := Nat.le_of_not_le h
    rw [Nat.min_eq_right h, List.drop_of_length_le h, List.drop_of_length_le (Nat.le_refl _), List.take_nil]
/-- what is above all nodes of a set -/
def comT (l : List (Str × Int)) : List (List (Str × Int)) → List (Str × Int)
  | [] => l
  | s :: r => comT (l.filter fun z => decide (z ∈ s)) r
theorem comT_snoc (s : List (Str × Int)) : ∀ (r : List (List (Str × Int))) (l : List (Str × Int)), comT l (r ++ [s]) = (comT l r).filter fun z => decide (z ∈ s)
  | [], l => rfl
  | a :: r, l => comT_snoc s r _
theorem comT_len : ∀ (r : List (List (Str × Int))) (l : List (Str × Int)), (comT l r).length ≤ l.length
  | [], l => Nat.le_refl _
  | a :: r, l => Nat.le_trans (comT_len r _) (List.length_filter_le _ _)
theorem comT_mem {z : Str × Int} : ∀ {r : List (List (Str × Int))} {l : List (Str × Int)}, z ∈ comT l r ↔ z ∈ l ∧ ∀ s ∈ r, z ∈ s
  | [], l => by show z ∈ l ↔ _; simp
  | a :: r, l => by
    show z ∈ comT _ r ↔ _
    rw [comT_mem, List.mem_filter, decide_eq_true_iff]
    simp only [List.mem_cons, forall_eq_or_imp, and_assoc]
abbrev sortP (l : List (Str × Int)) : PV := .tup ((l.map abE).mergeSort (PySem.W.dataLe false toD))
def sp_sure_past (K : Kf) : PSpec := fun vs M Q _ => ∃ (rs : PV) (t : Tr) (x : Str) (q : List Int) (r : List (List Int)), vs = [.tup [rs, t.pv], .str x] ∧ BT 9 t ∧ szT t ≤ 100000 ∧ pathsT x t = q :: r ∧
  Q (sortP (comT (abv q t) (r.map fun p => abv p t))) M
theorem sp_sure_past_len {K : Kf} {vs : List PV} {M : PHp} {Q : PVK} {E : PXK} (h : sp_sure_past K vs M Q E) : vs.length = 2 := by
  obtain ⟨_, _, _, _, _, rfl, _⟩ := h; rfl

theorem ok_sure_past {P : Program} {w : World} {K : Kf} {mg : Str → Option Value} {base : Heap} (h0 : Here K mg "sure_past" s_sure_past ["game", "name"]) (T : Blt mg) (XC : Xc K mg) (Su : Sure P base) (C_above : Callee P w K mg base 34 "above" ["tree", "path"] (sp_above K)) (C_paths_of : Callee P w K mg base 43 "paths_of" ["tree", "name"] (sp_paths_of K 9)) : Callee P w K mg base 44 "sure_past" ["game", "name"] (sp_sure_past K) := by
  refine ok_of h0 sc_sure_past (fun vs M Q E h => sp_sure_past_len h) (fun f cdv A outer s H E hr => ⟨_, (psscons (psset 2 sc_sure_past.nd (pcall C_paths_of (by exact hr.mono (by first | decide | omega)) (pacons (pixK (K := K) (pv 0) pinT) (pacons (pv 1) panil))))
      (psscons (psset 3 sc_sure_past.nd (pcallTy (cListK (K := K)) (by rfl) T.b_list (by decide +kernel) (pacons (pcall C_above (by exact hr.mono (by first | decide | omega)) (pacons (pixK (K := K) (pv 0) pinT) (pacons (pixK (K := K) (pv 2) pinT) panil))) panil)))
      (psscons (psfor PassesOwn.never rfl (piseqK (K := K) (pslice (pv 2) (posome pinT) ponone)) (pgname (i := 4) sc_sure_past.nd) (psscons (psset 5 sc_sure_past.nd (pcall C_above (by exact hr.mono (by first | decide | omega)) (pacons (pixK (K := K) (pv 0) pinT) (pacons (pv 4) panil))))
      (pssone (pssetlcF 3  rfl sc_sure_past.nd rfl (sw_true rfl rfl rfl (by decide +kernel)) (piseqK (K := K) (pv 3)) (blkOk_by (own := [("pair", 6)]) (N := ["game", "name", "paths", "common", "path", "pairs", "pair"]) (sc := defScope s_sure_past) (by decide +kernel)) (tgName (by decide)) (fun _ _ _ _ _ => (pg_name (i := 6) sc_sure_past.nd rfl (by first | exact Or.inl rfl | exact Or.inr rfl))) (fun _ _ _ _ _ => (ptsone (ptcmp (opInDT (K := K) (by exact hr.units)) (pv 6) (pv 5) rfl))) (fun _ _ _ _ _ => (pv 6))))))
      (pssone (psret (pcallTy (cTupleK (K := K)) (by rfl) T.b_tuple (by decide +kernel) (pacons (pcallB (cSortDK (K := K) (by exact hr.units)) (by rfl) T.b_sorted (by decide +kernel) (pacons (pv 3) panil)) panil))))))), fun vs M Q Ep h => ?_⟩)
  obtain ⟨rs, t, x, q, r, rfl, hb, sz, e, k⟩ := h
  have h0 : Hd [] M M [] := .start
  walk_at "go"
  refine ⟨t, x, rfl, hb, sz, by decide, fun l M1 hl sb hM1 => ?_⟩
  replace h0 := h0.addn sb hl hM1
  rw [e] at h0 hM1
  have hat : atI ((q :: r).map iv) 0 = some (iv q) := atI_nat (j := 0) rfl
  obtain ⟨h1, cs1, h2⟩ := paths_at hb (x := x) (q := q) (by rw [e]; exact List.mem_cons_self)
  walk_at "on"
  refine ⟨t, _, q, rfl, h2, by omega, ?_⟩
  walk_at "on"
  refine ald h0 fun cm hcm h0 => ?_
  replace h0 := h0 (.lst ((abv q t).map abE))
  walk_at "on"
  refine ald h0 fun sl hsl h0 => ?_
  have ec : cutL ((q :: r).map iv) (some 1) none = r.map iv := cut_frm ((q :: r).map iv) 1
  rw [ec]
  replace h0 := h0 (.lst (r.map iv))
  have qa := abv_len h2
  have rlen : (q :: r).length ≤ 100000 := by rw [← e]; exact Nat.le_trans paths_len sz
  rw [List.length_cons] at rlen
  clear hM1 hl hcm hsl sb
  walk_at "on"
  refine ⟨fun i σ M1 => ∃ (cm : Addr) (w4 w5 : Option PV), σ = [some (.tup [rs, t.pv]), some (.str x), some (.ref l), some (.ref cm), w4, w5, none] ∧ Hd [] M M1 [(cm, .lst ((comT (abv q t) ((r.take i).map fun p => abv p t)).map abE)), (sl, .lst (r.map iv))], ⟨_, _, by walk_at "subs", .refl _, cm, _, _, rfl, h0.sel [1, 0] (by decide) rfl⟩, fun i σ M1 ⟨_, _, _, _, h⟩ => .inl (h.get 1 rfl), ?_, ?_⟩
  · clear h0
    rintro i z σ M1 hz ⟨cm, w4, w5, rfl, h0⟩
    obtain ⟨p, hp, rfl⟩ := ivs_at hz
    obtain ⟨p1, ps1, p2⟩ := paths_at hb (x := x) (q := p) (by rw [e]; exact List.mem_cons_of_mem _ (List.mem_of_getElem? hp))
    have pa := abv_len p2
    have cl := comT_len ((r.take i).map fun p => abv p t) (abv q t)
    walk_at "on"
    refine ⟨t, _, p, rfl, p2, by omega, ?_⟩
    walk_at "on"
    generalize hc : comT (abv q t) ((r.take i).map fun p => abv p t) = cs at h0 cl
    have d0 : Str × Int := (⟨#[]⟩, 0)
    refine ⟨fun i => decide (cs.getD i d0 ∈ abv p t), fun i => abE (cs.getD i d0), by rw [List.length_map]; omega, fun M4 sb4 => .inl (sb4 _ _ (h0.get 0 rfl)), fun i z M4 Q3 hz sb4 k3 => ?_, fun i z M4 Q3 hz hb sb4 k3 => ?_, fun D2 l2 hD2 hl2 => ?_⟩
    · obtain ⟨z2, hz2, rfl⟩ := abE_at hz
      dsimp only at k3
      rw [show cs.getD i d0 = z2 from getD_at hz2] at k3
      refine ⟨_, rfl, ?_⟩
      walk_at "on"
      refine ⟨by rw [List.length_map]; omega, pair_txt _ _, abE_txt, fun b hb => ?_⟩
      have hb : b = decide (z2 ∈ abv p t) := by
        rw [abE_mem] at hb
        cases b <;> simp_all
      rw [hb]
      exact k3 _ (.refl _)
    · obtain ⟨z2, hz2, rfl⟩ := abE_at hz
      dsimp only at k3
      rw [show cs.getD i d0 = z2 from getD_at hz2] at k3
      refine ⟨_, rfl, ?_⟩
      walk_at "on"
      exact k3 _ (.refl _)
    rw [List.length_map, flt_list cs d0 (fun z => decide (z ∈ abv p t)) abE] at hl2
    subst hl2
    replace h0 := h0.new (o := .lst ((cs.filter fun z => decide (z ∈ abv p t)).map abE)) hD2
    walk_at "on"
    refine ⟨_, _, by walk_at "subs", .refl _, D2, _, _, rfl, ?_⟩
    rw [take_succ' hp, List.map_append]
    show Hd [] M _ [(D2, .lst ((comT (abv q t) ((r.take i).map (fun p => abv p t) ++ [abv p t])).map abE)), _]
    rw [comT_snoc, hc]
    exact h0.less (by simp)
  · clear h0
    rintro σ M1 ⟨cm, w4, w5, rfl, h0⟩
    rw [List.length_map, List.take_of_length_le (Nat.le_refl _)] at h0
    have cl := comT_len (r.map fun p => abv p t) (abv q t)
    have ps := prs_sortable (comT (abv q t) (r.map fun p => abv p t))
    walk_at "on"
    refine ⟨prs_pure, ps.1, ps.2, fun p hp => ?_⟩
    have sl2 : ((comT (abv q t) (r.map fun p => abv p t)).map abE).length ≤ 100000 := by rw [List.length_map]; omega
    rw [← (List.mergeSort_perm ((comT (abv q t) (r.map fun p => abv p t)).map abE) (PySem.W.dataLe false toD)).length_eq] at sl2
    walk_at "on"
    exact ⟨M, fun b o hb => Sub.new hp b o (h0.sub b o hb), k⟩

abbrev ssV (z : Str × Str) : PV := .tup [.str z.1, .str z.2]
def behB (u x : Str) (t : Tr) : Bool := decide (x ∈ nmT t) && (nodesP t []).all fun e => !decide (e.1 = x) || decide (u ∈ pns e.2)
theorem behB_iff {u x : Str} {t : Tr} : behB u x t = true ↔ x ∈ nmT t ∧ BehP u x t [] := by
  unfold behB
  rw [Bool.and_eq_true, decide_eq_true_iff, List.all_eq_true]
  refine and_congr .rfl (forall_congr' fun e => forall_congr' fun he => ?_)
  rw [Bool.or_eq_true, Bool.not_eq_true', decide_eq_false_iff_not, decide_eq_true_iff]
  exact ⟨fun h q => h.resolve_left fun n => n q, fun h => by by_cases q : e.1 = x <;> simp [q, h]⟩
def cutB (t : Tr) (ur lr : Row) : Bool := decide (ur.ow = lr.ow) && behB ur.nm lr.nm t
/-- which pairs of sets a cut fits -/
def cutsT (rs : List Row) (t : Tr) : List (Str × Str) := rs.flatMap fun ur => (rs.filter fun lr => cutB t ur lr).map fun lr => (ur.nm, lr.nm)
theorem nodesP_pns : ∀ {n : Nat} {t : Tr} {s : Prs}, BT n t → ∀ e ∈ nodesP t s, ∀ u ∈ pns e.2, u ∈ pns s ∨ u ∈ nmT t
  | _, .leaf _, s, _, e, he, u, hu => by rw [nodesP_leaf] at he; cases he
  | _, .node m cs, s, .node hl hc, e, he, u, hu => by
    rw [nodesP_node] at he
    rcases List.mem_cons.mp he with rfl | he
    · exact .inl hu
    · obtain ⟨i, c, h1, h2⟩ := nodesPs_mem.mp he
      rcases nodesP_pns (hc c (List.mem_of_getElem? h1)) e h2 u hu with q | q
      · rw [pns, List.map_append] at q
        rcases List.mem_append.mp q with q | q
        · exact .inl q
        · rw [List.map_singleton, List.mem_singleton] at q
          exact .inr (nmT_node.mpr (.inl q))
      · exact .inr (nmT_node.mpr (.inr ⟨c, List.mem_of_getElem? h1, q⟩))
theorem TOk.nself {us : List Str} {rs : List Row} {t : Tr} (h : TOk us rs t) : ∀ {s : Prs}, (∀ n ∈ pns s, n ∉ namesOf rs) → ∀ e ∈ nodesP t s, e.1 ∉ pns e.2 := by
  induction h with
  | leaf hx => intro s _ e he; rw [nodesP_leaf] at he; cases he
  | @node rs r cs hr hl hc ih =>
    intro s hs e he
    rw [nodesP_node] at he
    rcases List.mem_cons.mp he with rfl | he
    · exact fun q => hs _ q (List.mem_map_of_mem hr)
    · obtain ⟨i, c, h1, h2⟩ := nodesPs_mem.mp he
      refine ih c (List.mem_of_getElem? h1) (fun n hn q => ?_) e h2
      rw [pns, List.map_append] at hn
      obtain ⟨q1, h3, h4⟩ := List.mem_map.mp q
      rcases List.mem_append.mp hn with z | z
      · exact hs n z (by rw [← h4]; exact List.mem_map_of_mem (offN_sub h3))
      · rw [List.map_singleton, List.mem_singleton] at z
        exact (offN_mem.mp h3).2 (h4.trans z)
theorem nodesP_of {t : Tr} {x : Str} (h : x ∈ nmT t) : ∃ z ∈ nodesP t [], z.1 = x := by
  rw [← nodes_nm (t := t) (p := []) (s := []), List.mem_flatMap] at h
  obtain ⟨e, he, hx⟩ := h
  obtain ⟨n, cs, s', h1, h2, h3⟩ := nodes_to (s := []) e he
  rw [h1] at hx
  exact ⟨_, h3, (List.mem_singleton.mp hx).symm⟩
theorem fr_name : ∀ k < 128, nameB (frS k) = true := by decide +kernel
theorem fresh_ok {names : List Str} {n : Nat} (h : n + names.length ≤ 128) : (freshT names n).length = n ∧ (freshT names n).Nodup ∧ ∀ x ∈ freshT names n, nameB x = true ∧ x ∉ names := by
  have h1 := fl_len h
  refine ⟨by unfold freshT; rw [List.length_take]; omega, ?_, fun x hx => ?_⟩
  · have nd : ((List.range (n + names.length)).map frS).Nodup := by
      refine List.Sublist.nodup ?_ frS_nodup
      exact (List.range_sublist.mpr h).map frS
    exact (nd.filter _).sublist (List.take_sublist _ _)
  · have hx := List.mem_of_mem_take hx
    obtain ⟨h2, h3⟩ := List.mem_filter.mp hx
    obtain ⟨k, hk, rfl⟩ := List.mem_map.mp h2
    exact ⟨fr_name k (by have := List.mem_range.mp hk; omega), by simpa using h3⟩
theorem cok_iff {us : List Str} {rs : List Row} {t : Tr} (g : CG us rs t) {ur lr : Row} (hu : ur ∈ rs) (hl : lr ∈ rs) (hm : lr.nm ∈ nmT t) : (∃ ru r, COk rs t ur.nm lr.nm (freshT (namesOf rs) ur.ws.length) ru r) ↔ cutB t ur lr = true := by
  have nl : (namesOf rs).length = rs.length := List.length_map _
  have cu := g.rw ur hu
  have rle := g.le
  have l3 := cu.l3
  obtain ⟨f1, f2, f3⟩ := fresh_ok (names := namesOf rs) (n := ur.ws.length) (by omega)
  have fu := find_row g.sn.nodup hu
  have fx := find_row g.sn.nodup hl
  unfold cutB
  rw [Bool.and_eq_true, decide_eq_true_iff, behB_iff]
  constructor
  · rintro ⟨ru, r, c⟩
    have e1 := Option.some.inj (fu.symm.trans c.fu)
    have e2 := Option.some.inj (fx.symm.trans c.fx)
    subst e1 e2
    exact ⟨c.ow, hm, c.beh⟩
  · rintro ⟨h1, _, h2⟩
    refine ⟨ur, lr, fu, fx, fun e => ?_, h1, f1, f2, fun n hn => .inr (f3 n hn), h2⟩
    obtain ⟨z, hz, e3⟩ : ∃ z ∈ nodesP t [], z.1 = lr.nm := nodesP_of hm
    have := h2 z hz e3
    rw [e, ← e3] at this
    exact g.tok.nself (s := []) (fun n hn => by cases hn) z hz this
theorem flatMap_filter {α β : Type} (p : α → Bool) (f : α → List β) : ∀ {l : List α}, (∀ x ∈ l, p x = false → f x = []) → (l.filter p).flatMap f = l.flatMap f
  | [], _ => rfl
  | a :: l, h => by
    have ih := flatMap_filter p f (l := l) fun x hx => h x (List.mem_cons_of_mem _ hx)
    by_cases q : p a = true
    · rw [List.filter_cons_of_pos q, List.flatMap_cons, List.flatMap_cons, ih]
    · rw [List.filter_cons_of_neg q, List.flatMap_cons, h a List.mem_cons_self (by simpa using q), List.nil_append, ih]
/-- the rows of the sets in the tree -/
abbrev inR (rs : List Row) (t : Tr) : List Row := rs.filter fun r => decide (r.nm ∈ nmT t)
theorem cutsT_in {us : List Str} {rs : List Row} {t : Tr} (g : CG us rs t) : (inR rs t).flatMap (fun ur => ((inR rs t).filter fun lr => cutB t ur lr).map fun lr => (ur.nm, lr.nm)) = cutsT rs t := by
  have e : ∀ ur, (inR rs t).filter (fun lr => cutB t ur lr) = rs.filter fun lr => cutB t ur lr := fun ur => by
    rw [List.filter_filter]
    refine List.filter_congr fun lr _ => ?_
    by_cases q : cutB t ur lr = true
    · have q2 := q
      unfold cutB at q2
      rw [Bool.and_eq_true, behB_iff] at q2
      rw [q, decide_eq_true q2.2.1]; rfl
    · rw [show cutB t ur lr = false by simpa using q]; rfl
  simp only [e]
  refine flatMap_filter _ _ fun ur hu n => ?_
  rw [List.map_eq_nil_iff, List.filter_eq_nil_iff]
  intro lr hl q
  unfold cutB at q
  rw [Bool.and_eq_true, behB_iff] at q
  obtain ⟨z, hz, e3⟩ : ∃ z ∈ nodesP t [], z.1 = lr.nm := nodesP_of q.2.1
  rcases nodesP_pns g.bt z hz ur.nm (q.2.2 z hz e3) with y | y
  · cases y
  · rw [decide_eq_true y] at n; cases n
theorem inR_names {rs : List Row} {t : Tr} (sn : SortedN rs) {l : List Str} (nm : ∀ n ∈ nmT t, n ∈ namesOf rs) (h : ∀ x, x ∈ l ↔ x ∈ nmT t) (hl : l.Pairwise lts) : l = namesOf (inR rs t) := by
  have h2 : (namesOf (inR rs t)).Pairwise lts := by
    rw [List.pairwise_map]
    exact List.Pairwise.sublist List.filter_sublist sn
  refine strict_eq (R := lts) (fun a b h1 h2 => lts_irrefl _ (lts_trans h1 h2)) ?_ hl h2
  refine (List.perm_ext_iff_of_nodup (lts_nodup hl) (lts_nodup h2)).mpr fun x => ?_
  rw [h x]
  constructor
  · intro q
    obtain ⟨r, hr, rfl⟩ := List.mem_map.mp (nm x q)
    exact List.mem_map_of_mem (List.mem_filter.mpr ⟨hr, decide_eq_true q⟩)
  · intro q
    obtain ⟨r, hr, rfl⟩ := List.mem_map.mp q
    exact of_decide_eq_true (List.mem_filter.mp hr).2
theorem flat_len {α β : Type} {f : α → List β} {b : Nat} (h : ∀ x, (f x).length ≤ b) : ∀ l : List α, (l.flatMap f).length ≤ l.length * b
  | [] => by simp
  | a :: l => by
    have := flat_len h l
    have := h a
    rw [List.flatMap_cons, List.length_append, List.length_cons, Nat.succ_mul]; omega
theorem nm_get {R : List Row} {i : Nat} {u : Str} (h : (namesOf R)[i]? = some u) : ∃ r, R[i]? = some r ∧ u = r.nm := by
  rw [List.getElem?_map] at h
  cases e : R[i]? with
  | none => rw [e] at h; cases h
  | some z => rw [e] at h; exact ⟨z, rfl, (Option.some.inj h).symm⟩
def sp_cut_pairs (K : Kf) : PSpec := fun vs M Q _ => ∃ (us : List Str) (rs : List Row) (t : Tr), vs = [gameV rs t] ∧ CG us rs t ∧ ∀ l M', M l = none → Sub M M' → M' l = some (.lst ((cutsT rs t).map ssV)) → Q (.ref l) M'
theorem sp_cut_pairs_len {K : Kf} {vs : List PV} {M : PHp} {Q : PVK} {E : PXK} (h : sp_cut_pairs K vs M Q E) : vs.length = 1 := by
  obtain ⟨_, _, _, rfl, _⟩ := h; rfl

theorem ok_cut_pairs {P : Program} {w : World} {K : Kf} {mg : Str → Option Value} {base : Heap} (h0 : Here K mg "cut_pairs" s_cut_pairs ["game"]) (T : Blt mg) (XC : Xc K mg) (Su : Sure P base) (C_fresh_names : Callee P w K mg base 34 "fresh_names" ["game", "count"] (sp_fresh_names K)) (C_move_count : Callee P w K mg base 35 "move_count" ["game", "name"] (sp_move_count K)) (C_sets_in : Callee P w K mg base 54 "sets_in" ["tree"] (sp_sets_in K 20)) (C_step_fits : Callee P w K mg base 46 "step_fits" ["game", "step"] (sp_step_fits K)) : Callee P w K mg base 55 "cut_pairs" ["game"] (sp_cut_pairs K) := by
  refine ok_of h0 sc_cut_pairs (fun vs M Q E h => sp_cut_pairs_len h) (fun f cdv A outer s H E hr => ⟨_, (psscons (psset 1 sc_cut_pairs.nd (plst panil))
      (psscons (psset 2 sc_cut_pairs.nd (pcall C_sets_in (by exact hr.mono (by first | decide | omega)) (pacons (pixK (K := K) (pv 0) pinT) panil)))
      (psscons (psfor PassesOwn.never rfl (piseqK (K := K) (pv 2)) (pgname (i := 3) sc_cut_pairs.nd) (psscons (psset 4 sc_cut_pairs.nd (pcall C_fresh_names (by exact hr.mono (by first | decide | omega)) (pacons (pv 0) (pacons (pcall C_move_count (by exact hr.mono (by first | decide | omega)) (pacons (pv 0) (pacons (pv 3) panil))) panil))))
      (pssone (psfor PassesOwn.never rfl (piseqK (K := K) (pv 2)) (pgname (i := 5) sc_cut_pairs.nd) (pssone (psif (ptval (pcall C_step_fits (by exact hr.mono (by first | decide | omega)) (pacons (pv 0) (pacons (ptup (pacons pstr (pacons (pv 3) (pacons (pv 5) (pacons (pv 4) panil))))) panil)))) (pssone (psexpr (pbmK (K := K) PySem.F.plainAttrs_list PySem.F.slot_list_append PySem.F.type_list_append mAppend (pv 1) (pacons (ptup (pacons (pv 3) (pacons (pv 5) panil))) panil)))) pssnil))))))
      (pssone (psret (pv 1)))))), fun vs M Q Ep h => ?_⟩)
  obtain ⟨us, rs, t, rfl, g, k⟩ := h
  have h0 : Hd [] M M [] := .start
  have nl : (namesOf rs).length = rs.length := List.length_map _
  have rle := g.le
  walk_at "go"
  refine ald h0 fun l hl h0 => ?_
  replace h0 := h0 (.lst (([] : List (Str × Str)).map ssV))
  walk_at "on"
  refine ⟨t, us, rs, rfl, g.tok, by omega, by decide, fun l2 hl2 sn2 _ => ?_⟩
  have e2 := inR_names g.sn g.nm hl2 sn2
  subst e2
  have Rm : ∀ r ∈ inR rs t, r ∈ rs ∧ r.nm ∈ nmT t := fun r hr => ⟨(List.mem_filter.mp hr).1, of_decide_eq_true (List.mem_filter.mp hr).2⟩
  have Rl : (inR rs t).length ≤ rs.length := List.length_filter_le _ _
  have hcut := cutsT_in g
  generalize inR rs t = R at Rm Rl hcut
  have fl1 : ∀ i, ((R.take i).flatMap fun ur => (R.filter fun lr => cutB t ur lr).map fun lr => (ur.nm, lr.nm)).length ≤ 361 := fun i => by
    have h1 := flat_len (b := R.length) (f := fun ur : Row => (R.filter fun lr => cutB t ur lr).map fun lr => (ur.nm, lr.nm)) (fun x => by rw [List.length_map]; exact List.length_filter_le _ _) (R.take i)
    have h2 : (R.take i).length ≤ 19 := by rw [List.length_take]; omega
    have h3 : (R.take i).length * R.length ≤ 19 * 19 := Nat.mul_le_mul h2 (by omega)
    omega
  walk_at "on"
  refine ⟨fun i σ M1 => ∃ w3 w4 w5 : Option PV, σ = [some (gameV rs t), some (.ref l), some (.tup ((namesOf R).map PV.str)), w3, w4, w5] ∧ Hd [] M M1 [(l, .lst (((R.take i).flatMap fun ur => (R.filter fun lr => cutB t ur lr).map fun lr => (ur.nm, lr.nm)).map ssV))], ⟨_, _, by walk_at "subs", .refl _, _, _, _, rfl, h0⟩, ?_, ?_, ?_⟩
  · intros; trivial
  · clear h0
    rintro i z σ M1 hz ⟨w3, w4, w5, rfl, h0⟩
    obtain ⟨u, hu, rfl⟩ := str_at hz
    obtain ⟨ur, hur, rfl⟩ := nm_get hu
    obtain ⟨um, ut⟩ := Rm ur (List.mem_of_getElem? hur)
    have cu := g.rw ur um
    have l3 := cu.l3
    obtain ⟨f1, f2, f3⟩ := fresh_ok (names := namesOf rs) (n := ur.ws.length) (by omega)
    walk_at "on"
    refine ⟨rs, t.pv, ur.nm, ur, rfl, find_row g.sn.nodup um, ?_⟩
    walk_at "on"
    refine ⟨rs, t.pv, ur.ws.length, rfl, by omega, ?_⟩
    walk_at "on"
    generalize hB : ((R.take i).flatMap fun ur => (R.filter fun lr => cutB t ur lr).map fun lr => (ur.nm, lr.nm)) = B at h0
    have Bl := fl1 i
    rw [hB] at Bl
    refine ⟨fun j σ M1 => ∃ w5 : Option PV, σ = [some (gameV rs t), some (.ref l), some (.tup ((namesOf R).map PV.str)), some (.str ur.nm), some (strsV (freshT (namesOf rs) ur.ws.length)), w5] ∧ Hd [] M M1 [(l, .lst ((B ++ ((R.take j).filter fun lr => cutB t ur lr).map fun lr => (ur.nm, lr.nm)).map ssV))], ⟨_, _, by walk_at "subs", .refl _, _, rfl, by rw [List.take_zero, List.filter_nil, List.map_nil, List.append_nil]; exact h0⟩, ?_, ?_, ?_⟩
    · intros; trivial
    · clear h0
      rintro j z σ M1 hz ⟨w5, rfl, h0⟩
      obtain ⟨x, hx, rfl⟩ := str_at hz
      obtain ⟨lr, hlr, rfl⟩ := nm_get hx
      obtain ⟨lm, lt⟩ := Rm lr (List.mem_of_getElem? hlr)
      have ck := cok_iff g um lm lt
      have fj : ((R.take j).filter fun lr => cutB t ur lr).length ≤ 19 := Nat.le_trans (List.length_filter_le _ _) (by rw [List.length_take]; omega)
      walk_at "on"
      refine ⟨rs, t, ur.nm, lr.nm, freshT (namesOf rs) ur.ws.length, rfl, g.ok, by omega, g.bt, by omega, fun n hn => nameB_len (f3 n hn).1, fun r hr e => ?_, fun c => ?_, fun c M2 sb => ?_⟩
      · rw [← row_eq g.sn.nodup hr um e]; exact g.ar r hr
      · have c := ck.mp c
        walk_at "on"
        refine ⟨_, h0.get 0 rfl, by rw [List.length_map, List.length_append, List.length_map, sizeLine_eq]; omega, ?_⟩
        refine ⟨_, _, by walk_at "subs", .refl _, _, rfl, ?_⟩
        have e2 : (B ++ ((R.take (j + 1)).filter fun lr => cutB t ur lr).map fun lr => (ur.nm, lr.nm)).map ssV = (B ++ ((R.take j).filter fun lr => cutB t ur lr).map fun lr => (ur.nm, lr.nm)).map ssV ++ [ssV (ur.nm, lr.nm)] := by
          rw [take_succ' hlr, List.filter_append, List.filter_cons_of_pos c, List.filter_nil]
          simp only [List.map_append, List.append_assoc]; rfl
        rw [e2]
        exact h0.up0
      · have c : ¬ cutB t ur lr = true := fun q => c (ck.mpr q)
        walk_at "on"
        refine ⟨_, _, by walk_at "subs", .refl _, _, rfl, ?_⟩
        rw [take_succ' hlr, List.filter_append, List.filter_cons_of_neg c, List.filter_nil, List.append_nil]
        exact h0.step sb
    · clear h0
      rintro σ M1 ⟨w5, rfl, h0⟩
      rw [List.length_map, List.length_map, List.take_of_length_le (Nat.le_refl _)] at h0
      refine ⟨_, _, by walk_at "subs", .refl _, _, _, _, rfl, ?_⟩
      rw [take_succ' hur, List.flatMap_append, hB, List.flatMap_singleton]
      exact h0
  · clear h0
    rintro σ M1 ⟨w3, w4, w5, rfl, h0⟩
    rw [List.length_map, List.length_map, List.take_of_length_le (Nat.le_refl _), hcut] at h0
    walk_at "on"
    refine ⟨_, .refl _, k l _ ?_ h0.sub (h0.get 0 rfl)⟩
    rcases h0.fr _ List.mem_cons_self with q | q
    · exact q
    · cases q

theorem nodes_abs {t : Tr} {e : List Int × Tr × List PV} (h : e ∈ nodesT t [] []) : e.2.2 = (abv e.1 t).map abE ∧ ∃ n cs, e.2.1 = .node n cs := by
  obtain ⟨q, n, cs, _, _, e5⟩ := nodes_at e h
  have hb : bE n e = true := by unfold bE; rw [e5]; exact decide_eq_true rfl
  have hm : (e.1, e.2.2) ∈ ((nodesT t [] []).filter (bE n)).map (fun e => (e.1, e.2.2)) := List.mem_map_of_mem (f := fun e : List Int × Tr × List PV => (e.1, e.2.2)) (List.mem_filter.mpr ⟨h, hb⟩)
  rw [nodes_paths] at hm
  obtain ⟨q, _, e6⟩ := List.mem_map.mp hm
  rw [List.nil_append, List.nil_append] at e6
  injection e6 with e7 e8
  exact ⟨by rw [← e8, ← e7], n, cs, e5⟩
theorem comT_self {l : List (Str × Int)} {r : List (List (Str × Int))} : comT l (l :: r) = comT l r := by
  show comT (l.filter _) r = _
  rw [List.filter_eq_self.mpr fun z hz => decide_eq_true hz]
theorem nodes_done {x : Str} {t : Tr} : ((nodesT t [] []).filter (bE x)).map (fun e => abv e.1 t) = (pathsT x t).map fun q => abv q t := by
  have h := congrArg (List.map fun z : List Int × List PV => abv z.1 t) (nodes_paths (x := x) (t := t) (p := []) (s := []))
  rw [List.map_map, List.map_map] at h
  exact h
theorem BT.deep : ∀ {n : Nat} {t v : Tr} {p : List Int}, BT n t → trAt p t = some v → p.length < n
  | _, .leaf _, v, [], .leaf, _ => by simp
  | _, .node _ _, v, [], .node _ _, _ => by simp
  | _, .leaf x, v, m :: p, _, h => by rw [trAt_leaf] at h; cases h
  | _, .node x cs, v, m :: p, .node hl hc, h => by
    obtain ⟨n, cs2, c, e, h1, h2, h3⟩ := trAt_cons h
    cases e
    have := BT.deep (hc c (List.mem_of_getElem? h2)) h3
    rw [List.length_cons]; omega
theorem node_al {t : Tr} {e : List Int × Tr × List PV} (hb : BT 9 t) (h : e ∈ nodesT t [] []) : (abv e.1 t).length ≤ 9 := by
  obtain ⟨q2, m2, ds2, g1, g2, _⟩ := nodes_at _ h
  rw [List.nil_append] at g1
  rw [g1, abv_len g2]
  have := hb.deep g2
  omega
def sp__law_sure (K : Kf) : PSpec := fun vs M Q _ => ∃ (l : Addr) (t : Tr) (x : Str) (q : List Int) (r : List (List Int)), vs = [.ref l, .str x] ∧ M l = some (.lst ((nodesT t [] []).map ndV)) ∧ BT 9 t ∧ szT t ≤ 100000 ∧ pathsT x t = q :: r ∧
  ∀ M', Sub M M' → Q (sortP (comT (abv q t) (r.map fun p => abv p t))) M'
theorem sp__law_sure_len {K : Kf} {vs : List PV} {M : PHp} {Q : PVK} {E : PXK} (h : sp__law_sure K vs M Q E) : vs.length = 2 := by
  obtain ⟨_, _, _, _, _, rfl, _⟩ := h; rfl

theorem ok__law_sure {P : Program} {w : World} {K : Kf} {mg : Str → Option Value} {base : Heap} (h0 : Here K mg "_law_sure" s__law_sure ["nodes", "name"]) (T : Blt mg) (XC : Xc K mg) (Su : Sure P base)  : Callee P w K mg base 34 "_law_sure" ["nodes", "name"] (sp__law_sure K) := by
  refine ok_of h0 sc__law_sure (fun vs M Q E h => sp__law_sure_len h) (fun f cdv A outer s H E hr => ⟨_, (psscons (psset 2 sc__law_sure.nd pnon)
      (psscons (psfor PassesOwn.never rfl (piseqK (K := K) (pv 0)) (pgtup rfl (pgscons (pgname (i := 3) sc__law_sure.nd) (pgscons (pgname (i := 4) sc__law_sure.nd) (pgscons (pgname (i := 5) sc__law_sure.nd) pgsnil)))) (psscut (psifc (PW.pt (pwand (ptcmp (opEqK (K := K) (by exact hr.units)) (pixK (K := K) (pv 4) pinT) (pv 1) (nomark _)) (pwand1 (ptcmp opIsN (pv 2) pnon (nomark _))))) (pssone (psset 2 sc__law_sure.nd (pcallTy (cListK (K := K)) (by rfl) T.b_list (by decide +kernel) (pacons (pv 5) panil)))) pssnil)
      (pssone (psif (ptcmp (opEqK (K := K) (by exact hr.units)) (pixK (K := K) (pv 4) pinT) (pv 1) (nomark _)) (pssone (pssetlcF 2  rfl sc__law_sure.nd rfl (sw_true rfl rfl rfl (by decide +kernel)) (piseqK (K := K) (pv 2)) (blkOk_by (own := [("pair", 6)]) (N := ["nodes", "name", "common", "path", "node", "pairs", "pair"]) (sc := defScope s__law_sure) (by decide +kernel)) (tgName (by decide)) (fun _ _ _ _ _ => (pg_name (i := 6) sc__law_sure.nd rfl (by first | exact Or.inl rfl | exact Or.inr rfl))) (fun _ _ _ _ _ => (ptsone (ptcmp (opInDT (K := K) (by exact hr.units)) (pv 6) (pv 5) rfl))) (fun _ _ _ _ _ => (pv 6)))) pssnil))))
      (pssone (psret (pcallTy (cTupleK (K := K)) (by rfl) T.b_tuple (by decide +kernel) (pacons (pcallB (cSortDK (K := K) (by exact hr.units)) (by rfl) T.b_sorted (by decide +kernel) (pacons (pv 2) panil)) panil)))))), fun vs M Q Ep h => ?_⟩)
  obtain ⟨l, t, x, q, r, rfl, hM, hb, sz, e, k⟩ := h
  have h0 : Hd [] M M [] := .start
  have nlen := nodes_len (t := t) (p := []) (s := [])
  walk_at "go"
  refine ⟨fun i σ M1 => ∃ (w2 : PV) (w3 w4 w5 : Option PV) (L : List (Addr × MO)), σ = [some (.ref l), some (.str x), some w2, w3, w4, w5, none] ∧ Hd [] M M1 L ∧ ((((nodesT t [] []).take i).filter (bE x) = [] ∧ w2 = .non ∧ L = []) ∨ (∃ cm e0 d, ((nodesT t [] []).take i).filter (bE x) = e0 :: d ∧ w2 = .ref cm ∧ L = [(cm, .lst ((comT (abv e0.1 t) ((e0 :: d).map fun e => abv e.1 t)).map abE))])), ⟨_, _, by walk_at "subs", .refl _, .non, _, _, _, [], rfl, h0, .inl ⟨rfl, rfl, rfl⟩⟩, fun i σ M1 ⟨_, _, _, _, _, _, h, _⟩ => .inl (h.sub _ _ hM), ?_, ?_⟩
  · clear h0
    rintro i z σ M1 hz ⟨w2, w3, w4, w5, L, rfl, h0, hc⟩
    obtain ⟨e1, he1, rfl⟩ := nd_at hz
    have he2 := he1
    obtain ⟨ea, n, cs, en⟩ := nodes_abs (List.mem_of_getElem? he1)
    obtain ⟨pth, nd, prs⟩ := e1
    dsimp only at ea en
    subst ea en
    have hstep : ((nodesT t [] []).take (i + 1)).filter (bE x) = ((nodesT t [] []).take i).filter (bE x) ++ (if n = x then [(pth, Tr.node n cs, (abv pth t).map abE)] else []) := by
      rw [take_succ' he2, List.filter_append]
      congr 1
      by_cases q : n = x
      · rw [if_pos q, List.filter_cons_of_pos (show bE x (pth, Tr.node n cs, (abv pth t).map abE) = true from decide_eq_true q), List.filter_nil]
      · rw [if_neg q, List.filter_cons_of_neg (by show ¬ bE x (pth, Tr.node n cs, (abv pth t).map abE) = true; exact fun z => q (of_decide_eq_true z)), List.filter_nil]
    have al : (abv pth t).length ≤ 9 := node_al hb (List.mem_of_getElem? he2)
    have hDm : ∀ e' ∈ ((nodesT t [] []).take i).filter (bE x) ++ [(pth, Tr.node n cs, (abv pth t).map abE)], (abv e'.1 t).length ≤ 9 := fun e' h => by
      rcases List.mem_append.mp h with h | h
      · exact node_al hb (List.mem_of_mem_take (List.mem_filter.mp h).1)
      · rw [List.mem_singleton.mp h]; exact al
    generalize hD : ((nodesT t [] []).take i).filter (bE x) = D at hc hstep hDm
    walk_at "on"
    refine ⟨fun σ M2 => ∃ (w2 : PV) (L : List (Addr × MO)), σ = [some (.ref l), some (.str x), some w2, some (iv pth), some (Tr.node n cs).pv, some (.tup ((abv pth t).map abE)), none] ∧ Hd [] M M2 L ∧ (n = x → ∃ cm e0 d, D ++ [(pth, Tr.node n cs, (abv pth t).map abE)] = e0 :: d ∧ w2 = .ref cm ∧ L = [(cm, .lst ((comT (abv e0.1 t) (D.map fun e => abv e.1 t)).map abE))]) ∧
      (n ≠ x → (D = [] ∧ w2 = .non ∧ L = []) ∨ (∃ cm e0 d, D = e0 :: d ∧ w2 = .ref cm ∧ L = [(cm, .lst ((comT (abv e0.1 t) ((e0 :: d).map fun e => abv e.1 t)).map abE))])), ?_, ?_⟩
    · walk_at "on"
      refine ⟨fun b M2 => M2 = M1 ∧ (b = true ↔ n = x ∧ D = []), ?_, ?_⟩
      · walk_at "on"
        refine br_dec (fun h => ?_) (fun h => ?_)
        · rcases hc with ⟨hD, rfl, rfl⟩ | ⟨cm, e0, d, hD, rfl, rfl⟩
          · walk_at "on"
            exact ⟨_, .refl _, rfl, by simp [h, hD]⟩
          · walk_at "on"
            exact ⟨_, .refl _, rfl, by simp [hD]⟩
        · exact ⟨_, .refl _, rfl, by simp [h]⟩
      rintro b M2 ⟨rfl, hbb⟩
      refine br_of (fun h => ?_) (fun h => ?_)
      · obtain ⟨g1, g2⟩ := hbb.mp h
        rcases hc with ⟨_, rfl, rfl⟩ | ⟨cm, e0, d, q, _, _⟩
        · walk_at "on"
          refine ald h0 fun cm hcm h0 => ?_
          refine ⟨_, _, by walk_at "subs", .refl _, _, _, rfl, h0 (.lst ((abv pth t).map abE)), fun _ => ⟨cm, _, [], by rw [g2]; rfl, rfl, by rw [g2]; rfl⟩, fun q => absurd g1 q⟩
        · rw [g2] at q; cases q
      · walk_at "on"
        refine ⟨_, _, by walk_at "subs", .refl _, w2, L, rfl, h0, fun q => ?_, fun _ => hc⟩
        rcases hc with ⟨q2, _, _⟩ | ⟨cm, e0, d, q2, g3, g4⟩
        · rw [hbb.mpr ⟨q, q2⟩] at h; cases h
        · exact ⟨cm, e0, d ++ [(pth, Tr.node n cs, (abv pth t).map abE)], by rw [q2]; rfl, g3, by rw [g4, q2]⟩
    clear h0 hc
    rintro σ M2 ⟨w2, L, rfl, h0, hc1, hc2⟩
    walk_at "on"
    refine br_dec (fun h => ?_) (fun h => ?_)
    · obtain ⟨cm, e0, d, q1, rfl, rfl⟩ := hc1 h
      have cl := comT_len (D.map fun e => abv e.1 t) (abv e0.1 t)
      have al0 : (abv e0.1 t).length ≤ 9 := hDm e0 (by rw [q1]; exact List.mem_cons_self)
      walk_at "on"
      clear hc1 hc2
      have cel : comT (abv e0.1 t) (D.map fun e => abv e.1 t) = comT (abv e0.1 t) (D.map fun e => abv e.1 t) := rfl
      generalize hcs : comT (abv e0.1 t) (D.map fun e => abv e.1 t) = cs2 at h0 cl
      have d0 : Str × Int := (⟨#[]⟩, 0)
      refine ⟨fun i => decide (cs2.getD i d0 ∈ abv pth t), fun i => abE (cs2.getD i d0), by rw [List.length_map]; omega, fun M4 sb4 => .inl (sb4 _ _ (h0.get 0 rfl)), fun i z M4 Q3 hz sb4 k3 => ?_, fun i z M4 Q3 hz hb sb4 k3 => ?_, fun D2 l2 hD2 hl2 => ?_⟩
      · obtain ⟨z2, hz2, rfl⟩ := abE_at hz
        dsimp only at k3
        rw [show cs2.getD i d0 = z2 from getD_at hz2] at k3
        refine ⟨_, rfl, ?_⟩
        walk_at "on"
        refine ⟨by rw [List.length_map]; omega, pair_txt _ _, abE_txt, fun b hb => ?_⟩
        have hb : b = decide (z2 ∈ abv pth t) := by
          rw [abE_mem] at hb
          cases b <;> simp_all
        rw [hb]
        exact k3 _ (.refl _)
      · obtain ⟨z2, hz2, rfl⟩ := abE_at hz
        dsimp only at k3
        rw [show cs2.getD i d0 = z2 from getD_at hz2] at k3
        refine ⟨_, rfl, ?_⟩
        walk_at "on"
        exact k3 _ (.refl _)
      rw [List.length_map, flt_list cs2 d0 (fun z => decide (z ∈ abv pth t)) abE] at hl2
      subst hl2
      replace h0 := h0.new (o := .lst ((cs2.filter fun z => decide (z ∈ abv pth t)).map abE)) hD2
      walk_at "on"
      refine ⟨_, _, by walk_at "subs", .refl _, .ref D2, _, _, _, _, rfl, h0.less (L' := [(D2, .lst ((cs2.filter fun z => decide (z ∈ abv pth t)).map abE))]) (by simp), .inr ⟨D2, e0, d, by rw [hstep, if_pos h, q1], rfl, ?_⟩⟩
      rw [← q1, List.map_append]
      show _ = [(D2, MO.lst ((comT (abv e0.1 t) ((D.map fun e => abv e.1 t) ++ [abv pth t])).map abE))]
      rw [comT_snoc, hcs]
    · walk_at "on"
      refine ⟨_, _, by walk_at "subs", .refl _, w2, _, _, _, L, rfl, h0, ?_⟩
      rw [hstep, if_neg h, List.append_nil]
      exact hc2 h
  · clear h0
    rintro σ M1 ⟨w2, w3, w4, w5, L, rfl, h0, hc⟩
    rw [List.length_map, List.take_of_length_le (Nat.le_refl _)] at hc
    have hdone := nodes_done (x := x) (t := t)
    rw [e] at hdone
    rcases hc with ⟨q1, _, _⟩ | ⟨cm, e0, d, q1, rfl, rfl⟩
    · rw [q1] at hdone; cases hdone
    rw [q1] at hdone
    have e3 : abv e0.1 t = abv q t := by injection hdone
    rw [hdone, List.map_cons, e3, comT_self] at h0
    obtain ⟨p1, ps1, p2⟩ := paths_at hb (x := x) (q := q) (by rw [e]; exact List.mem_cons_self)
    have qa := abv_len p2
    have cl := comT_len (r.map fun p => abv p t) (abv q t)
    have ps := prs_sortable (comT (abv q t) (r.map fun p => abv p t))
    have sl2 : ((comT (abv q t) (r.map fun p => abv p t)).map abE).length ≤ 100000 := by rw [List.length_map]; omega
    rw [← (List.mergeSort_perm ((comT (abv q t) (r.map fun p => abv p t)).map abE) (PySem.W.dataLe false toD)).length_eq] at sl2
    walk_at "on"
    refine ⟨prs_pure, ps.1, ps.2, fun p hp => ?_⟩
    walk_at "on"
    exact ⟨_, .refl _, k _ fun b o hb => Sub.new hp b o (h0.sub b o hb)⟩

def sp__law_behind (K : Kf) : PSpec := fun vs M Q _ => ∃ (l : Addr) (t : Tr) (x u : Str), vs = [.ref l, .str x, .str u] ∧ M l = some (.lst ((nodesT t [] []).map ndV)) ∧ BT 9 t ∧ szT t ≤ 100000 ∧ ∀ M', Sub M M' → Q (.bl (behB u x t)) M'
theorem sp__law_behind_len {K : Kf} {vs : List PV} {M : PHp} {Q : PVK} {E : PXK} (h : sp__law_behind K vs M Q E) : vs.length = 3 := by
  obtain ⟨_, _, _, _, rfl, _⟩ := h; rfl
theorem beh_nodes {u x : Str} {t : Tr} : BehP u x t [] ↔ ∀ e ∈ nodesT t [] [], bE x e = true → u ∈ (abv e.1 t).map Prod.fst := by
  constructor
  · intro h e he hb
    obtain ⟨n, cs, s', h1, h2, h3⟩ := nodes_to (s := []) e he
    have q := h _ h3 (by unfold bE at hb; rw [h1] at hb; exact of_decide_eq_true hb)
    have ea := (nodes_abs he).1
    rw [h2] at ea
    obtain ⟨z, hz, rfl⟩ := List.mem_map.mp q
    have hm : pq z ∈ (abv e.1 t).map abE := ea ▸ List.mem_map_of_mem (f := pq) hz
    obtain ⟨w, hw, e2⟩ := List.mem_map.mp hm
    have e3 : w.1 = z.1 := by
      have e2 : PV.tup [.str w.1, .int w.2] = PV.tup [.str z.1, .int (z.2 : Int)] := e2
      injection e2 with e2
      injection e2 with e2 _
      injection e2
    exact e3 ▸ List.mem_map_of_mem hw
  · intro h e he ex
    obtain ⟨d, h1, cs, h2, h3⟩ := nodes_of (p := []) (s := []) e he
    have q := h d h1 (by unfold bE; rw [h2]; exact decide_eq_true ex)
    have ea := (nodes_abs h1).1
    rw [h3] at ea
    obtain ⟨w, hw, rfl⟩ := List.mem_map.mp q
    have hm : abE w ∈ e.2.map pq := ea ▸ List.mem_map_of_mem (f := abE) hw
    obtain ⟨z, hz, e2⟩ := List.mem_map.mp hm
    have e3 : z.1 = w.1 := by
      have e2 : PV.tup [.str z.1, .int (z.2 : Int)] = PV.tup [.str w.1, .int w.2] := e2
      injection e2 with e2
      injection e2 with e2 _
      injection e2
    exact e3 ▸ List.mem_map_of_mem hz

theorem ok__law_behind {P : Program} {w : World} {K : Kf} {mg : Str → Option Value} {base : Heap} (h0 : Here K mg "_law_behind" s__law_behind ["nodes", "name", "upper"]) (T : Blt mg) (XC : Xc K mg) (Su : Sure P base)  : Callee P w K mg base 34 "_law_behind" ["nodes", "name", "upper"] (sp__law_behind K) := by
  refine ok_of h0 sc__law_behind (fun vs M Q E h => sp__law_behind_len h) (fun f cdv A outer s H E hr => ⟨_, (psscons (psset 3 sc__law_behind.nd pbl)
      (psscons (psfor PassesOwn.never rfl (piseqK (K := K) (pv 0)) (pgtup rfl (pgscons (pgname (i := 4) sc__law_behind.nd) (pgscons (pgname (i := 5) sc__law_behind.nd) (pgscons (pgname (i := 6) sc__law_behind.nd) pgsnil)))) (pssone (psif (ptcmp (opEqK (K := K) (by exact hr.units)) (pixK (K := K) (pv 5) pinT) (pv 1) (nomark _)) (psscons (psset 3 sc__law_behind.nd pbl)
      (pssone (psif (ptcmp (opNotIn (K := K)) (pv 2) (plcP  rfl sc__law_behind.nd (piseqK (K := K) (pv 6)) (blkOk_by (own := [("pair", 7)]) (N := ["nodes", "name", "upper", "found", "path", "node", "pairs", "pair"]) (sc := defScope s__law_behind) (by decide +kernel)) (tgName (by decide)) (fun _ _ _ _ _ => (pg_name (i := 7) sc__law_behind.nd rfl (by first | exact Or.inl rfl | exact Or.inr rfl))) (fun _ _ _ _ _ => (pixK (K := K) (pv 7) pinT))) rfl) (pssone (psret pbl)) pssnil))) pssnil)))
      (pssone (psret (pv 3))))), fun vs M Q Ep h => ?_⟩)
  obtain ⟨l, t, x, u, rfl, hM, hb, sz, k⟩ := h
  have h0 : Hd [] M M [] := .start
  have nlen := nodes_len (t := t) (p := []) (s := [])
  walk_at "go"
  refine ⟨fun i σ M1 => ∃ w4 w5 w6 : Option PV, σ = [some (.ref l), some (.str x), some (.str u), some (.bl (decide (0 < (((nodesT t [] []).take i).filter (bE x)).length))), w4, w5, w6, none] ∧ Hd [] M M1 [] ∧ ∀ e ∈ (nodesT t [] []).take i, bE x e = true → u ∈ (abv e.1 t).map Prod.fst, ⟨_, _, by walk_at "subs", .refl _, _, _, _, rfl, h0, fun e he => by (cases he)⟩, fun i σ M1 ⟨_, _, _, _, h, _⟩ => .inl (h.sub _ _ hM), ?_, ?_⟩
  · clear h0
    rintro i z σ M1 hz ⟨w4, w5, w6, rfl, h0, hc⟩
    obtain ⟨e1, he1, rfl⟩ := nd_at hz
    have he2 := he1
    obtain ⟨ea, n, cs, en⟩ := nodes_abs (List.mem_of_getElem? he1)
    obtain ⟨pth, nd, prs⟩ := e1
    dsimp only at ea en
    subst ea en
    have al : (abv pth t).length ≤ 9 := node_al hb (List.mem_of_getElem? he2)
    have hstep : ((nodesT t [] []).take (i + 1)).filter (bE x) = ((nodesT t [] []).take i).filter (bE x) ++ (if n = x then [(pth, Tr.node n cs, (abv pth t).map abE)] else []) := by
      rw [take_succ' he2, List.filter_append]
      congr 1
      by_cases q : n = x
      · rw [if_pos q, List.filter_cons_of_pos (show bE x (pth, Tr.node n cs, (abv pth t).map abE) = true from decide_eq_true q), List.filter_nil]
      · rw [if_neg q, List.filter_cons_of_neg (by show ¬ bE x (pth, Tr.node n cs, (abv pth t).map abE) = true; exact fun z => q (of_decide_eq_true z)), List.filter_nil]
    walk_at "on"
    refine br_dec (fun h => ?_) (fun h => ?_)
    · walk_at "on"
      have d0 : Str × Int := (⟨#[]⟩, 0)
      refine ⟨fun i => .str ((abv pth t).getD i d0).1, by rw [List.length_map]; omega, fun _ _ => trivial, fun i z M2 Q2 hz sb k2 => ?_, fun Dl l2 hD hl => ?_⟩
      · obtain ⟨z2, hz2, rfl⟩ := abE_at hz
        dsimp only at k2
        rw [show (abv pth t).getD i d0 = z2 from getD_at hz2] at k2
        refine ⟨_, rfl, ?_⟩
        walk_at "on"
        exact k2 _ (.refl _)
      have hl : l2 = ((abv pth t).map Prod.fst).map PV.str := by
        rw [hl, List.length_map]
        have e : abv pth t = mk (abv pth t).length fun i => (abv pth t).getD i d0 := mk_of (abv pth t) d0
        conv => rhs; rw [e]
        rw [mk_map, mk_map]
      subst hl
      replace h0 := h0.new (o := .lst (((abv pth t).map Prod.fst).map PV.str)) hD
      walk_at "on"
      refine br_ndec (fun h2 => ?_) (fun h2 => ?_)
      · walk_at "on"
        refine ⟨_, .refl _, ?_⟩
        have e2 : behB u x t = false := by
          rw [← Bool.not_eq_true, behB_iff, beh_nodes]
          exact fun q => h2 (q.2 _ (List.mem_of_getElem? he2) (decide_eq_true h))
        rw [← e2]
        exact k _ h0.sub
      · walk_at "on"
        refine ⟨[some (.ref l), some (.str x), some (.str u), some (.bl true), some (iv pth), some (Tr.node n cs).pv, some (.tup ((abv pth t).map abE)), none], _, by walk_at "subs", .refl _, _, _, _, by rw [hstep, if_pos h, List.length_append, decide_eq_true (show 0 < (((nodesT t [] []).take i).filter (bE x)).length + [(pth, Tr.node n cs, (abv pth t).map abE)].length by rw [List.length_singleton]; omega)], h0.less (by simp), fun e he hbe => ?_⟩
        rw [take_succ' he2] at he
        rcases List.mem_append.mp he with he | he
        · exact hc e he hbe
        · rw [List.mem_singleton.mp he]; exact h2
    · walk_at "on"
      refine ⟨[some (.ref l), some (.str x), some (.str u), some (.bl (decide (0 < (((nodesT t [] []).take i).filter (bE x)).length))), some (iv pth), some (Tr.node n cs).pv, some (.tup ((abv pth t).map abE)), none], _, by walk_at "subs", .refl _, _, _, _, by rw [hstep, if_neg h, List.append_nil], h0, fun e he hbe => ?_⟩
      rw [take_succ' he2] at he
      rcases List.mem_append.mp he with he | he
      · exact hc e he hbe
      · rw [List.mem_singleton.mp he] at hbe
        exact absurd (of_decide_eq_true hbe) h
  · clear h0
    rintro σ M1 ⟨w4, w5, w6, rfl, h0, hc⟩
    rw [List.length_map, List.take_of_length_le (Nat.le_refl _)] at hc
    rw [List.length_map, List.take_of_length_le (Nat.le_refl _)]
    have e2 : decide (0 < ((nodesT t [] []).filter (bE x)).length) = behB u x t := by
      rw [Bool.eq_iff_iff, decide_eq_true_iff, behB_iff, bE_nm, beh_nodes]
      exact ⟨fun h => ⟨h, hc⟩, And.left⟩
    rw [e2]
    walk_at "on"
    exact ⟨_, .refl _, k _ h0.sub⟩

theorem pres_fresh {M0 M : PHp} {L : List (Addr × MO)} {l : Addr} {o : MO} (h : Hd [] M0 M ((l, o) :: L)) : M0 l = none := by
  rcases h.fr _ List.mem_cons_self with q | q
  · exact q
  · cases q
def sp__law_cuts (K : Kf) : PSpec := fun vs M Q _ => ∃ (us : List Str) (rs : List Row) (t : Tr), vs = [gameV rs t] ∧ CG us rs t ∧ ∀ l M', M l = none → Sub M M' → M' l = some (.lst ((cutsT rs t).map ssV)) → Q (.ref l) M'
theorem sp__law_cuts_len {K : Kf} {vs : List PV} {M : PHp} {Q : PVK} {E : PXK} (h : sp__law_cuts K vs M Q E) : vs.length = 1 := by
  obtain ⟨_, _, _, rfl, _⟩ := h; rfl

theorem ok__law_cuts {P : Program} {w : World} {K : Kf} {mg : Str → Option Value} {base : Heap} (h0 : Here K mg "_law_cuts" s__law_cuts ["game"]) (T : Blt mg) (XC : Xc K mg) (Su : Sure P base) (C__law_behind : Callee P w K mg base 34 "_law_behind" ["nodes", "name", "upper"] (sp__law_behind K)) (C__law_nodes : Callee P w K mg base 43 "_law_nodes" ["tree", "path", "pairs"] (sp__law_nodes K 9)) : Callee P w K mg base 44 "_law_cuts" ["game"] (sp__law_cuts K) := by
  refine ok_of h0 sc__law_cuts (fun vs M Q E h => sp__law_cuts_len h) (fun f cdv A outer s H E hr => ⟨_, (psscons (psset 1 sc__law_cuts.nd (pcall C__law_nodes (by exact hr.mono (by first | decide | omega)) (pacons (pixK (K := K) (pv 0) pinT) (pacons (ptup panil) (pacons (ptup panil) panil)))))
      (psscons (psset 2 sc__law_cuts.nd (plst panil))
      (psscons (psfor PassesOwn.never rfl (piseqK (K := K) (pixK (K := K) (pv 0) pinT)) (pgname (i := 3) sc__law_cuts.nd) (pssone (psfor PassesOwn.never rfl (piseqK (K := K) (pixK (K := K) (pv 0) pinT)) (pgname (i := 4) sc__law_cuts.nd) (pssone (psifc (PW.pt (pwand (ptcmp (opEqK (K := K) (by exact hr.units)) (pixK (K := K) (pv 3) pinT) (pixK (K := K) (pv 4) pinT) (nomark _)) (pwand1 (ptval (pcall C__law_behind (by exact hr.mono (by first | decide | omega)) (pacons (pv 1) (pacons (pixK (K := K) (pv 4) pinT) (pacons (pixK (K := K) (pv 3) pinT) panil)))))))) (pssone (psexpr (pbmK (K := K) PySem.F.plainAttrs_list PySem.F.slot_list_append PySem.F.type_list_append mAppend (pv 2) (pacons (ptup (pacons (pixK (K := K) (pv 3) pinT) (pacons (pixK (K := K) (pv 4) pinT) panil))) panil)))) pssnil)))))
      (pssone (psret (pv 2)))))), fun vs M Q Ep h => ?_⟩)
  obtain ⟨us, rs, t, rfl, g, k⟩ := h
  have h0 : Hd [] M M [] := .start
  have rle := g.le
  have sz := g.sz
  walk_at "go"
  refine ⟨t, [], [], rfl, g.bt, by omega, by decide, by decide, by decide, fun ln M1 hln sb hM1 => ?_⟩
  replace h0 := h0.addn sb hln hM1
  walk_at "on"
  refine ald h0 fun l hl h0 => ?_
  replace h0 := h0 (.lst (([] : List (Str × Str)).map ssV))
  clear hln sb hM1 hl
  walk_at "on"
  refine ⟨fun i σ M1 => ∃ w3 w4 : Option PV, σ = [some (gameV rs t), some (.ref ln), some (.ref l), w3, w4] ∧ Hd [] M M1 [(l, .lst (((rs.take i).flatMap fun ur => (rs.filter fun lr => cutB t ur lr).map fun lr => (ur.nm, lr.nm)).map ssV)), (ln, .lst ((nodesT t [] []).map ndV))], ⟨_, _, by walk_at "subs", .refl _, _, _, rfl, h0⟩, ?_, ?_, ?_⟩
  · intros; trivial
  · clear h0
    rintro i z σ M1 hz ⟨w3, w4, rfl, h0⟩
    obtain ⟨ur, hur, rfl⟩ := row_at hz
    walk_at "on"
    have Bl : ((rs.take i).flatMap fun ur => (rs.filter fun lr => cutB t ur lr).map fun lr => (ur.nm, lr.nm)).length ≤ 361 := by
      have h1 := flat_len (b := rs.length) (f := fun ur : Row => (rs.filter fun lr => cutB t ur lr).map fun lr => (ur.nm, lr.nm)) (fun x => by rw [List.length_map]; exact List.length_filter_le _ _) (rs.take i)
      have h2 : (rs.take i).length ≤ 19 := by rw [List.length_take]; omega
      have h3 : (rs.take i).length * rs.length ≤ 19 * 19 := Nat.mul_le_mul h2 (by omega)
      omega
    generalize hB : ((rs.take i).flatMap fun ur => (rs.filter fun lr => cutB t ur lr).map fun lr => (ur.nm, lr.nm)) = B at h0 Bl
    refine ⟨fun j σ M1 => ∃ w4 : Option PV, σ = [some (gameV rs t), some (.ref ln), some (.ref l), some ur.pv, w4] ∧ Hd [] M M1 [(l, .lst ((B ++ ((rs.take j).filter fun lr => cutB t ur lr).map fun lr => (ur.nm, lr.nm)).map ssV)), (ln, .lst ((nodesT t [] []).map ndV))], ⟨_, _, by walk_at "subs", .refl _, _, rfl, by rw [List.take_zero, List.filter_nil, List.map_nil, List.append_nil]; exact h0⟩, ?_, ?_, ?_⟩
    · intros; trivial
    · clear h0
      rintro j z σ M1 hz ⟨w4, rfl, h0⟩
      obtain ⟨lr, hlr, rfl⟩ := row_at hz
      have fj : ((rs.take j).filter fun lr => cutB t ur lr).length ≤ 19 := Nat.le_trans (List.length_filter_le _ _) (by rw [List.length_take]; omega)
      walk_at "on"
      refine ⟨fun b M2 => b = cutB t ur lr ∧ Hd [] M M2 [(l, .lst ((B ++ ((rs.take j).filter fun lr => cutB t ur lr).map fun lr => (ur.nm, lr.nm)).map ssV)), (ln, .lst ((nodesT t [] []).map ndV))], ?_, ?_⟩
      · walk_at "on"
        refine br_dec (fun h => ?_) (fun h => ?_)
        · walk_at "on"
          refine ⟨ln, t, lr.nm, ur.nm, rfl, h0.get 1 rfl, g.bt, by omega, fun M2 sb => ?_⟩
          walk_at "on"
          refine ⟨_, .refl _, ?_, h0.step sb⟩
          unfold cutB
          rw [decide_eq_true (show ur.ow = lr.ow by omega)]; rfl
        · refine ⟨_, .refl _, ?_, h0⟩
          unfold cutB
          rw [decide_eq_false (show ¬ ur.ow = lr.ow by omega)]; rfl
      clear h0
      rintro b M2 ⟨rfl, h0⟩
      refine br_of (fun c => ?_) (fun c => ?_)
      · walk_at "on"
        refine ⟨_, h0.get 0 rfl, by rw [List.length_map, List.length_append, List.length_map, sizeLine_eq]; omega, ?_⟩
        refine ⟨_, _, by walk_at "subs", .refl _, _, rfl, ?_⟩
        have e2 : (B ++ ((rs.take (j + 1)).filter fun lr => cutB t ur lr).map fun lr => (ur.nm, lr.nm)).map ssV = (B ++ ((rs.take j).filter fun lr => cutB t ur lr).map fun lr => (ur.nm, lr.nm)).map ssV ++ [ssV (ur.nm, lr.nm)] := by
          rw [take_succ' hlr, List.filter_append, List.filter_cons_of_pos c, List.filter_nil]
          simp only [List.map_append, List.append_assoc]; rfl
        rw [e2]
        exact h0.up0
      · walk_at "on"
        refine ⟨_, _, by walk_at "subs", .refl _, _, rfl, ?_⟩
        rw [take_succ' hlr, List.filter_append, List.filter_cons_of_neg (by rw [c]; exact Bool.false_ne_true), List.filter_nil, List.append_nil]
        exact h0
    · clear h0
      rintro σ M1 ⟨w4, rfl, h0⟩
      rw [List.length_map, List.take_of_length_le (Nat.le_refl _)] at h0
      refine ⟨_, _, by walk_at "subs", .refl _, _, _, rfl, ?_⟩
      rw [take_succ' hur, List.flatMap_append, hB, List.flatMap_singleton]
      exact h0
  · clear h0
    rintro σ M1 ⟨w3, w4, rfl, h0⟩
    rw [List.length_map, List.take_of_length_le (Nat.le_refl _)] at h0
    walk_at "on"
    exact ⟨_, .refl _, k l _ (pres_fresh h0) h0.sub (h0.get 0 rfl)⟩

def nmE (e : List Int × Tr × List PV) : Str := match e.2.1 with
  | .leaf x => x
  | .node n _ => n
theorem fm_congr {α β : Type} {f g : α → List β} : ∀ {l : List α}, (∀ x ∈ l, f x = g x) → l.flatMap f = l.flatMap g
  | [], _ => rfl
  | a :: l, h => by rw [List.flatMap_cons, List.flatMap_cons, h a List.mem_cons_self, fm_congr fun x hx => h x (List.mem_cons_of_mem _ hx)]
theorem nodes_names {t : Tr} : (nodesT t [] []).map nmE = nmT t := by
  rw [← nodes_nm (t := t) (p := []) (s := []), List.map_eq_flatMap]
  refine fm_congr fun e he => ?_
  obtain ⟨_, n, cs, en⟩ := nodes_abs he
  unfold nmE
  rw [en]
theorem paths_some {t : Tr} {x : Str} (h : x ∈ nmT t) : ∃ q r, pathsT x t = q :: r := by
  have h1 := bE_nm (t := t) (p := []) (s := []) (x := x) |>.mpr h
  have h2 := congrArg List.length (nodes_done (x := x) (t := t))
  rw [List.length_map, List.length_map] at h2
  cases e : pathsT x t with
  | nil => rw [e] at h2; rw [h2] at h1; exact absurd h1 (Nat.lt_irrefl 0)
  | cons q r => exact ⟨q, r, rfl⟩
theorem sortP_pure {l : List (Str × Int)} (h : l.length ≤ 1000) : PureD 20 (sortP l) := by
  refine .tup (by rw [(List.mergeSort_perm _ _).length_eq, List.length_map]; omega) fun z hz => ?_
  have hz := (List.mergeSort_perm (l.map abE) (PySem.W.dataLe false toD)).mem_iff.mp hz
  obtain ⟨w, _, rfl⟩ := List.mem_map.mp hz
  refine .tup (by show 2 ≤ 16777216; decide) fun z hz => ?_
  rcases List.mem_cons.mp hz with rfl | hz
  · exact .str _
  · rw [List.mem_singleton.mp hz]; exact .int _
theorem ssV_pure {z : Str × Str} : PureD 19 (ssV z) := by
  refine .tup (by show 2 ≤ 16777216; decide) fun z hz => ?_
  rcases List.mem_cons.mp hz with rfl | hz
  · exact .str _
  · rw [List.mem_singleton.mp hz]; exact .str _
theorem cutsT_len {us : List Str} {rs : List Row} {t : Tr} (g : CG us rs t) : (cutsT rs t).length ≤ 361 := by
  have rle := g.le
  have h1 := flat_len (b := rs.length) (f := fun ur : Row => (rs.filter fun lr => cutB t ur lr).map fun lr => (ur.nm, lr.nm)) (fun x => by rw [List.length_map]; exact List.length_filter_le _ _) rs
  have h3 : rs.length * rs.length ≤ 19 * 19 := Nat.mul_le_mul rle rle
  exact Nat.le_trans h1 h3
def sp__law_asked (K : Kf) : PSpec := fun vs M Q _ => ∃ (us : List Str) (rs : List Row) (t : Tr), vs = [gameV rs t] ∧ CG us rs t ∧ ∀ M', Sub M M' → Q (.bl true) M'
theorem sp__law_asked_len {K : Kf} {vs : List PV} {M : PHp} {Q : PVK} {E : PXK} (h : sp__law_asked K vs M Q E) : vs.length = 1 := by
  obtain ⟨_, _, _, rfl, _⟩ := h; rfl

theorem ok__law_asked {P : Program} {w : World} {K : Kf} {mg : Str → Option Value} {base : Heap} (h0 : Here K mg "_law_asked" s__law_asked ["game"]) (T : Blt mg) (XC : Xc K mg) (Su : Sure P base) (C__law_cuts : Callee P w K mg base 44 "_law_cuts" ["game"] (sp__law_cuts K)) (C__law_nodes : Callee P w K mg base 43 "_law_nodes" ["tree", "path", "pairs"] (sp__law_nodes K 9)) (C__law_sure : Callee P w K mg base 34 "_law_sure" ["nodes", "name"] (sp__law_sure K)) (C__law_told : Callee P w K mg base 54 "_law_told" ["answer", "due"] (sp__law_told K 20)) (C_cut_pairs : Callee P w K mg base 55 "cut_pairs" ["game"] (sp_cut_pairs K)) (C_sure_past : Callee P w K mg base 44 "sure_past" ["game", "name"] (sp_sure_past K)) : Callee P w K mg base 56 "_law_asked" ["game"] (sp__law_asked K) := by
  refine ok_of h0 sc__law_asked (fun vs M Q E h => sp__law_asked_len h) (fun f cdv A outer s H E hr => ⟨_, (psscons (psset 1 sc__law_asked.nd (pcall C__law_nodes (by exact hr.mono (by first | decide | omega)) (pacons (pixK (K := K) (pv 0) pinT) (pacons (ptup panil) (pacons (ptup panil) panil)))))
      (psscons (pssetlcP 2  rfl sc__law_asked.nd rfl (sw_true rfl rfl rfl (by decide +kernel)) (piseqK (K := K) (pv 1)) (blkOk_by (own := [("one", 4)]) (N := ["game", "nodes", "names", "row", "one"]) (sc := defScope s__law_asked) (by decide +kernel)) (tgName (by decide)) (fun _ _ _ _ _ => (pg_name (i := 4) sc__law_asked.nd rfl (by first | exact Or.inl rfl | exact Or.inr rfl))) (fun _ _ _ _ _ => (pixK (K := K) (pixK (K := K) (pv 4) pinT) pinT)))
      (psscons (psfor PassesOwn.never rfl (piseqK (K := K) (pixK (K := K) (pv 0) pinT)) (pgname (i := 3) sc__law_asked.nd) (pssone (psifc (PW.pt (pwand (ptcmp (opIn (K := K)) (pixK (K := K) (pv 3) pinT) (pv 2) rfl) (pwand1 (ptnot (ptval (pcall C__law_told (by exact hr.mono (by first | decide | omega)) (pacons (pcall C_sure_past (by exact hr.mono (by first | decide | omega)) (pacons (pv 0) (pacons (pixK (K := K) (pv 3) pinT) panil))) (pacons (pcall C__law_sure (by exact hr.mono (by first | decide | omega)) (pacons (pv 1) (pacons (pixK (K := K) (pv 3) pinT) panil))) panil)))))))) (pssone (psret pbl)) pssnil)))
      (pssone (psret (pcall C__law_told (by exact hr.mono (by first | decide | omega)) (pacons (pcall C_cut_pairs (by exact hr.mono (by first | decide | omega)) (pacons (pv 0) panil)) (pacons (pcall C__law_cuts (by exact hr.mono (by first | decide | omega)) (pacons (pv 0) panil)) panil)))))))), fun vs M Q Ep h => ?_⟩)
  obtain ⟨us, rs, t, rfl, g, k⟩ := h
  have h0 : Hd [] M M [] := .start
  have rle := g.le
  have sz := g.sz
  have nlen := nodes_len (t := t) (p := []) (s := [])
  walk_at "go"
  refine ⟨t, [], [], rfl, g.bt, by omega, by decide, by decide, by decide, fun ln M1 hln sb hM1 => ?_⟩
  replace h0 := h0.addn sb hln hM1
  walk_at "on"
  refine ⟨fun i => .str (nmE ((nodesT t [] []).getD i nd0)), by rw [List.length_map]; omega, fun M4 sb4 => .inl (sb4 _ _ hM1), fun i z M4 Q3 hz sb4 k3 => ?_, fun Dl l hD hl => ?_⟩
  · obtain ⟨e, he, rfl⟩ := nd_at hz
    simp only [getD_at he] at k3
    obtain ⟨_, n, cs, en⟩ := nodes_abs (List.mem_of_getElem? he)
    obtain ⟨e1, e2, e3⟩ := e
    cases en
    refine ⟨_, rfl, ?_⟩
    walk_at "on"
    exact k3 _ (.refl _)
  have hl : l = (nmT t).map PV.str := by
    rw [hl, List.length_map, ← nodes_names]
    have e : nodesT t [] [] = mk (nodesT t [] []).length fun i => (nodesT t [] []).getD i nd0 := mk_of _ nd0
    conv => rhs; rw [e]
    rw [mk_map, mk_map]
  subst hl
  replace h0 := h0.new (o := .lst ((nmT t).map PV.str)) hD
  clear hln sb hM1 hD
  walk_at "on"
  refine ⟨fun i σ M1 => ∃ w3 : Option PV, σ = [some (gameV rs t), some (.ref ln), some (.ref Dl), w3, none] ∧ Hd [] M M1 [(Dl, .lst ((nmT t).map PV.str)), (ln, .lst ((nodesT t [] []).map ndV))], ⟨_, _, by walk_at "subs", .refl _, _, rfl, h0⟩, ?_, ?_, ?_⟩
  · intros; trivial
  · clear h0
    rintro i z σ M1 hz ⟨w3, rfl, h0⟩
    obtain ⟨r, hr, rfl⟩ := row_at hz
    walk_at "on"
    refine ⟨fun b M2 => b = false ∧ Hd [] M M2 [(Dl, .lst ((nmT t).map PV.str)), (ln, .lst ((nodesT t [] []).map ndV))], ?_, ?_⟩
    · walk_at "on"
      refine br_dec (fun h => ?_) (fun h => ?_)
      · obtain ⟨q, rr, e⟩ := paths_some h
        obtain ⟨p1, ps1, p2⟩ := paths_at g.bt (x := r.nm) (q := q) (by rw [e]; exact List.mem_cons_self)
        have qa := abv_len p2
        have cl := comT_len (rr.map fun p => abv p t) (abv q t)
        walk_at "on"
        refine ⟨rowsV rs, t, r.nm, q, rr, rfl, g.bt, by omega, e, ?_⟩
        walk_at "on"
        refine ⟨ln, t, r.nm, q, rr, rfl, h0.get 1 rfl, g.bt, by omega, e, fun M2 sb => ?_⟩
        walk_at "on"
        refine ⟨_, _, rfl, (sortP_pure (by omega)).td, ?_⟩
        walk_at "on"
        exact ⟨_, .refl _, rfl, h0.step sb⟩
      · exact ⟨_, .refl _, rfl, h0⟩
    clear h0
    rintro b M2 ⟨rfl, h0⟩
    walk_at "on"
    exact ⟨_, _, by walk_at "subs", .refl _, _, rfl, h0⟩
  · clear h0
    rintro σ M1 ⟨w3, rfl, h0⟩
    have cl := cutsT_len g
    walk_at "on"
    refine ⟨us, rs, t, rfl, g, fun l1 M2 hl1 sb2 hM2 => ?_⟩
    walk_at "on"
    refine ⟨us, rs, t, rfl, g, fun l2 M3 hl2 sb3 hM3 => ?_⟩
    walk_at "on"
    refine ⟨_, _, rfl, .lst (sb3 _ _ hM2) hM3 (by rw [List.length_map]; omega) (.of rfl fun i x y e1 e2 => ?_), ?_⟩
    · rw [e1] at e2; cases e2
      obtain ⟨z, _, rfl⟩ := List.mem_map.mp (List.mem_of_getElem? e1)
      exact ssV_pure.td
    · walk_at "on"
      exact ⟨_, .refl _, k _ ((h0.sub.trans sb2).trans sb3)⟩

theorem beh_is {u x n : Str} {cs : List Tr} {s : Prs} (h : BehP u x (.node n cs) s) (e : n = x) : ∃ k, tkOf u s = some k := tkOf_is.mpr ((BehP.node.mp h).1 e)
theorem tk_snoc {u m m' : Str} {i : Nat} {s s2 : Prs} (e : tkOf u s2 = tkOf u s) (q : m' = u ↔ m = u) : tkOf u (s2 ++ [(m', i)]) = tkOf u (s ++ [(m, i)]) := by
  rw [tkOf_snoc, tkOf_snoc, e]
  by_cases z : m = u
  · rw [if_pos z, if_pos (q.mpr z)]
  · rw [if_neg z, if_neg fun y => z (q.mp y)]
theorem gl_cut {u x : Str} {ns : List Str} (hu : u ∉ ns) (hux : u ≠ x) : ∀ {n : Nat} {t : Tr} {s s2 : Prs}, BT n t → AT u ns.length t → InW u ns.length s → (∀ n ∈ nmT t, n ≠ x → n ∉ ns) → tkOf u s2 = tkOf u s → BehP u x t s → GlP u ns (cutT u x ns (tkOf u s) t) s2
  | n + 1, _, s, s2, .leaf, _, _, _, _, _ => by rw [cutT_leaf]; intro e he; rw [nodesP_leaf] at he; cases he
  | n + 1, _, s, s2, .node (x := m) (cs := cs) hl hc, ha, hw, hn, e2, hb => by
    obtain ⟨b1, b2⟩ := BehP.node.mp hb
    rw [cutT_node, GlP.node]
    have key : (cnm x ns (tkOf u s) m = u ↔ m = u) ∧ (cnm x ns (tkOf u s) m ∈ ns → ∃ k, tkOf u s2 = some k ∧ ns[k]? = some (cnm x ns (tkOf u s) m)) := by
      by_cases e : m = x
      · obtain ⟨k, hk⟩ := beh_is hb e
        have hkl := hw k hk
        have hg : ns[k]? = some (ns.getD k x) := by rw [List.getElem?_eq_getElem hkl, getD_at (List.getElem?_eq_getElem hkl)]
        rw [cnm_eq e hk]
        refine ⟨⟨fun q => absurd (q ▸ List.mem_of_getElem? hg) hu, fun q => absurd (q.symm.trans e) hux⟩, fun _ => ⟨k, by rw [e2, hk], hg⟩⟩
      · rw [cnm_ne e]
        exact ⟨Iff.rfl, fun q => absurd q (hn m (nmT_node.mpr (.inl rfl)) e)⟩
    refine ⟨key.2, fun i c hc2 => ?_⟩
    rw [cutTs_get, Nat.zero_add] at hc2
    cases e : cs[i]? with
    | none => rw [e] at hc2; cases hc2
    | some d =>
      rw [e] at hc2
      have hc2 := Option.some.inj hc2
      subst hc2
      have hdm := List.mem_of_getElem? e
      rw [nk_of]
      exact gl_cut hu hux (hc d hdm) (ha.kid.2 d hdm) (hw.kid ha e) (fun k hk => hn k (nmT_node.mpr (.inr ⟨d, hdm, hk⟩))) (tk_snoc e2 key.1) (b2 i d e)

theorem cut_bt {u x : Str} {ns : List Str} : ∀ {n : Nat} {t : Tr} {tk : Option Nat}, BT n t → BT n (cutT u x ns tk t)
  | n + 1, .leaf y, tk, .leaf => by rw [cutT_leaf]; exact .leaf
  | n + 1, .node m cs, tk, .node hl hc => by
    rw [cutT_node]
    refine .node (by rw [cutTs_len]; exact hl) fun d hd => ?_
    obtain ⟨i, c, h1, rfl⟩ := cut_mem hd
    exact cut_bt (hc c (List.mem_of_getElem? h1))
mutual
theorem cut_sz {u x : Str} {ns : List Str} : ∀ {t : Tr} {tk : Option Nat}, szT (cutT u x ns tk t) = szT t
  | .leaf y, tk => by rw [cutT_leaf]
  | .node m cs, tk => by rw [cutT_node]; unfold szT; rw [cut_szs]
theorem cut_szs {u x n : Str} {ns : List Str} {tk : Option Nat} : ∀ {cs : List Tr} {i : Nat}, szTs (cutTs u x ns tk n i cs) = szTs cs
  | [], i => by rw [cutTs_nil]
  | c :: r, i => by rw [cutTs_cons]; unfold szTs; rw [cut_sz, cut_szs]
end
theorem TOk.ndp {us : List Str} {rs : List Row} {t : Tr} (h : TOk us rs t) : ∀ {s : Prs}, (∀ n ∈ pns s, n ∉ namesOf rs) → (pns s).Nodup → ∀ e ∈ nodesP t s, (pns e.2).Nodup := by
  induction h with
  | leaf hx => intro s _ _ e he; rw [nodesP_leaf] at he; cases he
  | @node rs r cs hr hl hc ih =>
    intro s hs nd e he
    rw [nodesP_node] at he
    rcases List.mem_cons.mp he with rfl | he
    · exact nd
    · obtain ⟨i, c, h1, h2⟩ := nodesPs_mem.mp he
      refine ih c (List.mem_of_getElem? h1) (fun n hn q => ?_) ?_ e h2
      · rw [pns, List.map_append] at hn
        obtain ⟨q1, h3, h4⟩ := List.mem_map.mp q
        rcases List.mem_append.mp hn with z | z
        · exact hs n z (by rw [← h4]; exact List.mem_map_of_mem (offN_sub h3))
        · rw [List.map_singleton, List.mem_singleton] at z
          exact (offN_mem.mp h3).2 (h4.trans z)
      · rw [pns, List.map_append, List.nodup_append]
        refine ⟨nd, by simp, fun a ha b hb e => ?_⟩
        rw [List.map_singleton, List.mem_singleton] at hb
        subst hb
        exact hs a ha (by rw [e]; exact List.mem_map_of_mem hr)
theorem map_abE_inj : ∀ {l m : List (Str × Int)}, l.map abE = m.map abE → l = m
  | [], [], _ => rfl
  | [], _ :: _, h => by cases h
  | _ :: _, [], h => by cases h
  | a :: l, b :: m, h => by
    rw [List.map_cons, List.map_cons] at h
    injection h with h1 h2
    rw [abE_inj.mp h1, map_abE_inj h2]
abbrev prI (s : Prs) : List (Str × Int) := s.map fun z => (z.1, (z.2 : Int))
theorem paths_prs {x : Str} {t : Tr} {q : List Int} (h : q ∈ pathsT x t) : ∃ e ∈ nodesP t [], e.1 = x ∧ abv q t = prI e.2 := by
  have hm : (q, abEs q t) ∈ ((nodesT t [] []).filter (bE x)).map (fun e => (e.1, e.2.2)) := by
    rw [nodes_paths]
    exact List.mem_map.mpr ⟨q, h, rfl⟩
  obtain ⟨d, hd, e1⟩ := List.mem_map.mp hm
  obtain ⟨h1, h2⟩ := List.mem_filter.mp hd
  obtain ⟨n, cs, s', g1, g2, g3⟩ := nodes_to (s := []) d h1
  injection e1 with e2 e3
  refine ⟨_, g3, by unfold bE at h2; rw [g1] at h2; exact of_decide_eq_true h2, map_abE_inj ?_⟩
  show abEs q t = _
  rw [← e3, g2, List.map_map]
  rfl
/-- behind a cut the move at the upper set is sure -/
theorem cut_sure {us us2 : List Str} {rs qs : List Row} {t : Tr} {u x : Str} {ns : List Str} (g : CG us rs t) (gq : CG us2 qs (cutT u x ns none t)) {ru r : Row} (c : COk rs t u x ns ru r) {k : Nat} {y : Str} (hk : ns[k]? = some y) {q : List Int} {rr : List (List Int)} (hp : pathsT y (cutT u x ns none t) = q :: rr) :
    (u, (k : Int)) ∈ comT (abv q (cutT u x ns none t)) (rr.map fun p => abv p (cutT u x ns none t)) := by
  have hum := List.mem_of_find?_eq_some c.fu
  have hun : ru.nm = u := by simpa using List.find?_some c.fu
  have uin : u ∈ namesOf rs := hun ▸ List.mem_map_of_mem hum
  have hu : u ∉ ns := fun q => by
    rcases c.nw u q with z | z
    · exact c.ne z
    · exact z.2 uin
  have clen := c.len
  have hau : AT u ns.length t := by rw [clen, ← hun]; exact g.ar ru hum
  have gl := gl_cut (s := []) (s2 := []) hu c.ne g.bt hau (fun k hk => by cases hk) (fun n hn ne q => by
    rcases c.nw n q with z | z
    · exact ne z
    · exact z.2 (g.nm n hn)) rfl c.beh
  have one : ∀ p ∈ pathsT y (cutT u x ns none t), (u, (k : Int)) ∈ abv p (cutT u x ns none t) := fun p hp => by
    obtain ⟨e, he, h1, h2⟩ := paths_prs hp
    have ym : y ∈ ns := List.mem_of_getElem? hk
    obtain ⟨k', g1, g2⟩ := gl e he (by rw [h1]; exact ym)
    rw [h1] at g2
    have ek : k' = k := (List.getElem?_inj (lt_of_get g2) c.nd).mp (g2.trans hk.symm)
    subst ek
    rw [h2]
    have nd := gq.tok.ndp (s := []) (fun n hn => by cases hn) List.nodup_nil e he
    rcases (tkF_some nd).mp g1 with z | z
    · exact List.mem_map.mpr ⟨(u, k'), z, rfl⟩
    · exact absurd z.1 (by simp)
  rw [comT_mem]
  refine ⟨one q (by rw [hp]; exact List.mem_cons_self), fun s hs => ?_⟩
  obtain ⟨p, hp2, rfl⟩ := List.mem_map.mp hs
  exact one p (by rw [hp]; exact List.mem_cons_of_mem _ hp2)
theorem CG.after {us : List Str} {rs qs : List Row} {t t' : Tr} {u x : Str} {ns : List Str} (g : CG us rs t) (n4 : ns.length ≤ 4) (le : rs.length ≤ 16) (h : CR rs t (.cut u x ns) qs t') : CG us qs t' ∧ qs.length ≤ rs.length + 3 := by
  obtain ⟨ru, r, c, pm, sn, rfl⟩ := h
  have hrm := List.mem_of_find?_eq_some c.fx
  have hrn : r.nm = x := by simpa using List.find?_some c.fx
  have hum := List.mem_of_find?_eq_some c.fu
  have hun : ru.nm = u := by simpa using List.find?_some c.fu
  have uin : u ∈ namesOf rs := hun ▸ List.mem_map_of_mem hum
  have hu : u ∉ ns := fun q => by
    rcases c.nw u q with z | z
    · exact c.ne z
    · exact z.2 uin
  have clen := c.len
  have hau : AT u ns.length t := by rw [clen, ← hun]; exact g.ar ru hum
  have ol : (offN rs x).length < rs.length := by have := offN_len hrm; rwa [hrn] at this
  have ql : qs.length ≤ rs.length + 3 := by rw [pm.length_eq, List.length_append, List.length_map]; omega
  have tok : TOk us qs (cutT u x ns (tkOf u []) t) := g.tok.cut hu c.ne (fun r' hr' n => pm.mem_iff.mpr (List.mem_append_left _ (offN_mem.mpr ⟨hr', n⟩))) (fun r' hr' e n hn => ⟨⟨n, r.ow, r.ws⟩, pm.mem_iff.mpr (List.mem_append_right _ (List.mem_map_of_mem hn)), rfl, by rw [row_eq g.sn.nodup hr' hrm (e.trans hrn.symm)]⟩) (fun n hn => (c.nw n hn).imp id And.right) hau (fun k hk => by cases hk) c.beh
  refine ⟨⟨tok, sn, fun q hq => ?_, by omega, cut_bt g.bt, by rw [cut_sz]; exact g.sz⟩, ql⟩
  rcases List.mem_append.mp (pm.mem_iff.mp hq) with z | z
  · exact g.rw q (offN_sub z)
  · obtain ⟨n, hn, rfl⟩ := List.mem_map.mp z
    have cr := g.rw r hrm
    refine ⟨?_, cr.ow, cr.l1, cr.l3, cr.ws⟩
    rcases c.nw n hn with y | y
    · show nameB n = true; rw [y, ← hrn]; exact cr.nm
    · exact y.1
theorem GameD.cg {rs : List Row} {us : List Str} {t : Tr} (d : GameD 24 rs us t) (l4 : rs.length ≤ 4) : CG us rs t := by
  refine ⟨d.tr, d.sn, fun r hr => ?_, by omega, d.tr.bt (fun r hr => by have := (d.row r hr).l2; omega) (by omega), ?_⟩
  · have q := d.row r hr
    exact ⟨q.nm.nameB, q.ow, q.l1, q.l2, fun w hw => (q.ws w hw).1⟩
  · have := TOk.size2 (W := 4) (k := 4) d.tr (fun r hr => (d.row r hr).l2) l4
    omega
/-- a pair that a cut fits, with any names -/
theorem cuts_mem {us : List Str} {rs : List Row} {t : Tr} (g : CG us rs t) {u x : Str} (h : (u, x) ∈ cutsT rs t) : ∃ ur lr, ur ∈ rs ∧ lr ∈ rs ∧ ur.nm = u ∧ lr.nm = x ∧ ∀ ns : List Str, ns.length = ur.ws.length → ns.Nodup → (∀ n ∈ ns, n = x ∨ (nameB n = true ∧ n ∉ namesOf rs)) → COk rs t u x ns ur lr := by
  obtain ⟨ur, hu, h⟩ := List.mem_flatMap.mp h
  obtain ⟨lr, hl, e⟩ := List.mem_map.mp h
  obtain ⟨hl, hb⟩ := List.mem_filter.mp hl
  injection e with e1 e2
  subst e1 e2
  have q := hb
  unfold cutB at q
  rw [Bool.and_eq_true, behB_iff] at q
  obtain ⟨ru, r, c⟩ := (cok_iff g hu hl q.2.1).mpr hb
  have f1 := find_row g.sn.nodup hu
  have f2 := find_row g.sn.nodup hl
  have e1 := Option.some.inj (f1.symm.trans c.fu)
  have e2 := Option.some.inj (f2.symm.trans c.fx)
  subst e1 e2
  exact ⟨ur, lr, hu, hl, rfl, rfl, fun ns hl nd nw => ⟨c.fu, c.fx, c.ne, c.ow, hl, nd, nw, c.beh⟩⟩

theorem put_len {α : Type} {l : List α} {i : Nat} {x : α} (h : i < l.length) : (l.take i ++ [x] ++ l.drop (i + 1)).length = l.length := by
  rw [List.length_append, List.length_append, List.length_take, List.length_drop, List.length_singleton]; omega
theorem put_nodup {α : Type} {l : List α} {i : Nat} {x : α} (nd : l.Nodup) (hx : x ∉ l) : (l.take i ++ [x] ++ l.drop (i + 1)).Nodup := by
  have h1 : (l.take i).Sublist l := List.take_sublist i l
  have h2 : (l.drop (i + 1)).Sublist l := List.drop_sublist _ l
  rw [List.append_assoc, List.nodup_append, List.nodup_append]
  refine ⟨nd.sublist h1, ⟨by simp, nd.sublist h2, fun a ha b hb e => ?_⟩, fun a ha b hb e => ?_⟩
  · rw [List.mem_singleton] at ha
    exact hx (ha ▸ e ▸ h2.subset hb)
  · subst e
    rcases List.mem_append.mp hb with z | z
    · rw [List.mem_singleton] at z
      exact hx (z ▸ h1.subset ha)
    · have q : (l.take i ++ l.drop (i + 1)).Nodup := nd.sublist (by
        have e : l.take i ++ l.drop i = l := List.take_append_drop i l
        conv => rhs; rw [← e]
        refine List.Sublist.append (List.Sublist.refl _) ?_
        rw [show i + 1 = i + 1 from rfl, ← List.drop_drop]
        exact List.drop_sublist _ _)
      exact (List.nodup_append.mp q).2.2 a ha a z rfl
theorem put_mem {α : Type} {l : List α} {i : Nat} {x y : α} (h : y ∈ l.take i ++ [x] ++ l.drop (i + 1)) : y = x ∨ y ∈ l := by
  rcases List.mem_append.mp h with h | h
  · rcases List.mem_append.mp h with h | h
    · exact .inr (List.mem_of_mem_take h)
    · exact .inl (List.mem_singleton.mp h)
  · exact .inr (List.mem_of_mem_drop h)

theorem ok_law {P : Program} {w : World} {K : Kf} {mg : Str → Option Value} {base : Heap} {f : Addr} {fd : FuncData} (F : Fun K "law" "law" s_law f fd) (T : Blt mg) (XC : Xc K mg) (Su : Sure P base) (C__law_asked : Callee P w K mg base 56 "_law_asked" ["game"] (sp__law_asked K)) (C__law_cut_step : Callee P w K mg base 44 "_law_cut_step" ["game", "step"] (sp__law_cut_step K)) (C__law_cuts : Callee P w K mg base 44 "_law_cuts" ["game"] (sp__law_cuts K)) (C__law_draw : Callee P w K mg base 34 "_law_draw" ["script", "source", "limit"] (sp__law_draw K)) (C__law_game : Callee P w K mg base 56 "_law_game" ["script", "source", "many", "most", "nodes"] (sp__law_game K)) (C__law_names : Callee P w K mg base 36 "_law_names" ["script", "source", "used", "count"] (sp__law_names K)) (C__law_nodes : Callee P w K mg base 43 "_law_nodes" ["tree", "path", "pairs"] (sp__law_nodes K 9)) (C__law_row : Callee P w K mg base 34 "_law_row" ["rows", "name"] (sp__law_row K)) (C__law_source : Callee P w K mg base 34 "_law_source" ["script"] (sp__law_source K)) (C__law_told : Callee P w K mg base 54 "_law_told" ["answer", "due"] (sp__law_told K 20)) (C_cut_up : CalleeR (L2.CX P w) P w K mg base 44 "cut_up" ["game", "upper", "name", "names"] (sp_cut_up K)) (C_sure_past : Callee P w K mg base 44 "sure_past" ["game", "name"] (sp_sure_past K)) : FnOk P w K mg base CX0 57 f fd ["script"] (concF K (spLaw K)) := by
  refine law_of F sc_law (fun vs M Q E h => by obtain ⟨_, _, rfl, _⟩ := h; rfl) (fun f cdv A outer s H E hr => ⟨_, (psscons (psset 1 sc_law.nd (pcall C__law_source (by exact hr.mono (by first | decide | omega)) (pacons (pv 0) panil)))
      (psscons (psset 2 sc_law.nd (pcall C__law_game (by exact hr.mono (by first | decide | omega)) (pacons (pv 0) (pacons (pv 1) (pacons pinT (pacons pinT (pacons pinT panil)))))))
      (psscons (psset 3 sc_law.nd (pv 2))
      (psscons (psif (ptnot (ptval (pcall C__law_asked (by exact hr.mono (by first | decide | omega)) (pacons (pv 3) panil)))) (pssone (psret pbl)) pssnil)
      (psscons (psfor PassesOwn.never rfl (pirng1 (by rfl) T.b_range (pacons (pop opAdd pinT (pcall C__law_draw (by exact hr.mono (by first | decide | omega)) (pacons (pv 0) (pacons (pv 1) (pacons pinT panil))))) panil)) (pgname (i := 4) sc_law.nd) (psscons (psset 5 sc_law.nd (pcall C__law_cuts (by exact hr.mono (by first | decide | omega)) (pacons (pv 3) panil)))
      (psscons (psif (ptcmp (opEqK (K := K) (by exact hr.units)) (pcallB (cLenK (K := K)) (by rfl) T.b_len (by decide +kernel) (pacons (pv 5) panil)) pinT (nomark _)) (pssone psbreak) pssnil)
      (psscons (psasg (pixK (K := K) (pv 5) (pcall C__law_draw (by exact hr.mono (by first | decide | omega)) (pacons (pv 0) (pacons (pv 1) (pacons (pcallB (cLenK (K := K)) (by rfl) T.b_len (by decide +kernel) (pacons (pv 5) panil)) panil))))) (pgtup rfl (pgscons (pgname (i := 6) sc_law.nd) (pgscons (pgname (i := 7) sc_law.nd) pgsnil))))
      (psscons (psset 8 sc_law.nd (pcallB (cLenK (K := K)) (by rfl) T.b_len (by decide +kernel) (pacons (pixK (K := K) (pcall C__law_row (by exact hr.mono (by first | decide | omega)) (pacons (pixK (K := K) (pv 3) pinT) (pacons (pv 6) panil))) pinT) panil)))
      (psscons (psset 9 sc_law.nd (pcall C__law_names (by exact hr.mono (by first | decide | omega)) (pacons (pv 0) (pacons (pv 1) (pacons (plcP  rfl sc_law.nd (piseqK (K := K) (pixK (K := K) (pv 3) pinT)) (blkOk_by (own := [("row", 14)]) (N := ["script", "source", "start", "game", "k", "pairs", "upper", "lower", "count", "names", "at", "after", "used", "move", "row", "one"]) (sc := defScope s_law) (by decide +kernel)) (tgName (by decide)) (fun _ _ _ _ _ => (pg_name (i := 14) sc_law.nd rfl (by first | exact Or.inl rfl | exact Or.inr rfl))) (fun _ _ _ _ _ => (pixK (K := K) (pv 14) pinT))) (pacons (pv 8) panil))))))
      (psscons (psset 10 sc_law.nd (pcall C__law_draw (by exact hr.mono (by first | decide | omega)) (pacons (pv 0) (pacons (pv 1) (pacons (pop opMul pinT (pv 8)) panil)))))
      (psscut (psif (ptcmp (opLt (by exact hr.units0)) (pv 10) (pv 8) (nomark _)) (pssone (psset 9 sc_law.nd (pop opAdd (pop opAdd (pslice (pv 9) ponone (posome (pv 10))) (ptup (pacons (pv 7) panil))) (pslice (pv 9) (posome (pop opAdd (pv 10) pinT)) ponone)))) pssnil)
      (psscons (psset 11 sc_law.nd (pcall C__law_cut_step (by exact hr.mono (by first | decide | omega)) (pacons (pv 3) (pacons (ptup (pacons pstr (pacons (pv 6) (pacons (pv 7) (pacons (pv 9) panil))))) panil))))
      (psscons (psif (ptnot (ptval (pcall C__law_told (by exact hr.mono (by first | decide | omega)) (pacons (pcallR0 C_cut_up rfl (by exact hr.mono (by first | decide | omega)) (pacons (pv 3) (pacons (pv 6) (pacons (pv 7) (pacons (pv 9) panil))))) (pacons (pv 11) panil))))) (pssone (psret pbl)) pssnil)
      (psscons (pssetlcP 12  rfl sc_law.nd rfl (sw_true rfl rfl rfl (by decide +kernel)) (piseqK (K := K) (pcall C__law_nodes (by exact hr.mono (by first | decide | omega)) (pacons (pixK (K := K) (pv 11) pinT) (pacons (ptup panil) (pacons (ptup panil) panil))))) (blkOk_by (own := [("one", 15)]) (N := ["script", "source", "start", "game", "k", "pairs", "upper", "lower", "count", "names", "at", "after", "used", "move", "row", "one"]) (sc := defScope s_law) (by decide +kernel)) (tgName (by decide)) (fun _ _ _ _ _ => (pg_name (i := 15) sc_law.nd rfl (by first | exact Or.inl rfl | exact Or.inr rfl))) (fun _ _ _ _ _ => (pixK (K := K) (pixK (K := K) (pv 15) pinT) pinT)))
      (psscons (psfor PassesOwn.never rfl (pirng1 (by rfl) T.b_range (pacons (pv 8) panil)) (pgname (i := 13) sc_law.nd) (pssone (psifc (PW.pt (pwand (ptcmp (opIn (K := K)) (pixK (K := K) (pv 9) (pv 13)) (pv 12) rfl) (pwand1 (ptcmp (opNotInDT (K := K) (by exact hr.units)) (ptup (pacons (pv 6) (pacons (pv 13) panil))) (pcall C_sure_past (by exact hr.mono (by first | decide | omega)) (pacons (pv 11) (pacons (pixK (K := K) (pv 9) (pv 13)) panil))) rfl)))) (pssone (psret pbl)) pssnil)))
      (psscons (psset 3 sc_law.nd (pv 11))
      (pssone (psif (ptnot (ptval (pcall C__law_asked (by exact hr.mono (by first | decide | omega)) (pacons (pv 3) panil)))) (pssone (psret pbl)) pssnil)))))))))))))))
      (pssone (psret (pcall C__law_asked (by exact hr.mono (by first | decide | omega)) (pacons (pv 2) panil))))))))), fun vs M Q Ep h => ?_⟩)
  obtain ⟨a, ns, rfl, hrd, hlen, hbits, k⟩ := h
  walk_at "go"
  refine ⟨a, ns, rfl, hrd, fun s M1 m hs0 sb hs1 hm => ?_⟩
  have e1 := Env.first hrd hs0 sb hs1 hm hlen hbits
  have k0 : ∀ M', Keep s M1 M' → Sub M M' := fun M' kk b o hb => kk b o (neM hb hs0) (sb _ _ hb)
  clear hrd hs1 hm
  walk_at "on"
  refine ⟨a, s, ns, 4, 24, 24, rfl, by decide, by decide, by decide, e1, fun rs us t M2 hrl gd e2 k2 => ?_⟩
  have he := (He.start e1).call e2 k2
  have g0 := gd.cg hrl
  clear gd
  walk_at "on"
  refine ⟨us, rs, t, rfl, g0, fun M3 sb3 => ?_⟩
  replace he := he.step sb3
  walk_at "on"
  refine dr he (by decide) (by decide) fun d M4 d0 d1 he => ?_
  walk_at "on"
  refine ⟨by omega, ?_⟩
  clear sb3 e1 e2 k2
  refine ⟨fun i σ M' => ∃ (qs : List Row) (t' : Tr) (w4 w5 w6 w7 w8 w9 w10 w11 w12 w13 : Option PV), qs.length ≤ 4 + 3 * i ∧ CG us qs t' ∧ σ = [some (.ref a), some (.ref s), some (gameV rs t), some (gameV qs t'), w4, w5, w6, w7, w8, w9, w10, w11, w12, w13, none, none] ∧ He K [] a s ns M1 M' [], ⟨_, _, by walk_at "subs", .refl _, rs, t, _, _, _, _, _, _, _, _, _, _, by omega, g0, rfl, he⟩, ?_, ?_, ?_⟩
  · intros; trivial
  · clear he
    rintro i z σ M5 hz ⟨qs, t', w4, w5, w6, w7, w8, w9, w10, w11, w12, w13, ql, g, rfl, he⟩
    obtain ⟨hi, rfl⟩ := rng_get hz
    have cl := cutsT_len g
    have qlen : (qs.map Row.pv).length = qs.length := List.length_map _
    have qnl : (namesOf qs).length = qs.length := List.length_map _
    walk_at "on"
    refine ⟨us, qs, t', rfl, g, fun lp M6 hlp sb6 hM6 => ?_⟩
    replace he := he.addn sb6 hlp hM6
    have pl : ((cutsT qs t').map ssV).length = (cutsT qs t').length := List.length_map _
    clear hlp sb6 hM6
    walk_at "on"
    refine br_dec (fun h => ?_) (fun h => ?_)
    · walk_at "on"
      refine ⟨us, rs, t, rfl, g0, fun M7 sb7 => ?_⟩
      walk_at "on"
      exact ⟨M, k0 _ (he.step sb7).keep, k⟩
    walk_at "on"
    refine dr he (by omega) (bt64 (by omega)) fun j M7 j0 j1 he => ?_
    obtain ⟨u, x, hz2, hza⟩ : ∃ u x, (u, x) ∈ cutsT qs t' ∧ atI ((cutsT qs t').map ssV) j = some (.tup [.str u, .str x]) := by
      obtain ⟨z, h2, h3, _⟩ := at_mem (l := cutsT qs t') j0 (by omega)
      obtain ⟨m, rfl⟩ : ∃ m : Nat, j = (m : Int) := ⟨j.toNat, by omega⟩
      rw [Int.toNat_natCast] at h3
      exact ⟨z.1, z.2, h2, atI_nat (by rw [List.getElem?_map, h3]; rfl)⟩
    obtain ⟨ur, lr, hum, hlm, hun, hxn, hcok⟩ := cuts_mem g hz2
    subst hun hxn
    have fu := find_row g.sn.nodup hum
    have cu := g.rw ur hum
    have u3 := cu.l3
    have u1 := cu.l1
    have wl : (ur.ws.map PV.int).length = ur.ws.length := List.length_map _
    have cx := g.rw lr hlm
    walk_at "on"
    refine ⟨qs, ur.nm, rfl, fun r hr => ?_, fun hn => by rw [fu] at hn; cases hn⟩
    rw [fu] at hr; cases hr
    walk_at "on"
    refine ⟨fun i => .str (qs.getD i r0).nm, by omega, fun _ _ => trivial, fun i z M2 Q2 hz sb k3 => ?_, fun u0 l hu hl => ?_⟩
    · obtain ⟨r, hr, rfl⟩ := row_at hz
      refine ⟨_, rfl, ?_⟩
      simp only [getD_at hr] at k3
      walk_at "on"
      exact k3 _ (.refl _)
    rw [qlen, mk_list qs r0 (fun r => PV.str r.nm), show (qs.map fun r => PV.str r.nm) = (namesOf qs).map PV.str by rw [List.map_map]; rfl] at hl
    subst hl
    replace he := he.new (o := .lst ((namesOf qs).map PV.str)) hu
    walk_at "on"
    refine ⟨a, s, u0, ns, namesOf qs, ur.ws.length, by rw [wl], he.env, .inl (he.get 0 rfl), he.ne_s 0 rfl, by omega, fun ys M8 yl ynd yx e8 k8 => ?_⟩
    replace he := (he.call e8 k8).nil
    clear hu e8 k8 hza hz2
    walk_at "on"
    refine dr he (by omega) (bt64 (by omega)) fun at_ M9 at0 at1 he => ?_
    obtain ⟨at_, rfl⟩ : ∃ n : Nat, at_ = (n : Int) := ⟨at_.toNat, by omega⟩
    have ysl : (ys.map PV.str).length = ys.length := List.length_map _
    have cu2 : at_ < 2 * ur.ws.length := by omega
    clear at0 at1
    walk_at "on"
    refine ⟨fun σ M' => ∃ (nms : List Str) (w11 w12 w13 : Option PV), nms.length = ur.ws.length ∧ nms.Nodup ∧ (∀ n ∈ nms, n = lr.nm ∨ (nameB n = true ∧ n ∉ namesOf qs)) ∧ (∀ n ∈ nms, n.length ≤ 1000) ∧ σ = [some (.ref a), some (.ref s), some (gameV rs t), some (gameV qs t'), some (.int (0 + (i : Int))), some (.ref lp), some (.str ur.nm), some (.str lr.nm), some (.int ((ur.ws.map PV.int).length : Nat)), some (strsV nms), some (.int (at_ : Int)), w11, w12, w13, none, none] ∧ He K [] a s ns M1 M' [], ?_, ?_⟩
    · have lrl := nameB_len (g.rw lr hlm).nm
      refine br_dec (fun h => ?_) (fun h => ?_)
      · have h1 : at_ < ys.length := by omega
        have tl : (ys.take at_).length = at_ := by rw [List.length_take]; omega
        have dl : (ys.drop (at_ + 1)).length + at_ + 1 = ys.length := by rw [List.length_drop]; omega
        walk_at "on"
        rw [cutL_map, cut_to]
        refine ⟨by rw [List.length_map, List.length_singleton, sizeLine_eq]; omega, ?_⟩
        walk_at "on"
        rw [cutL_map, show (at_ : Int) + 1 = ((at_ + 1 : Nat) : Int) by omega, cut_frm]
        refine ⟨by rw [List.length_append, List.length_map, List.length_map, List.length_singleton, sizeLine_eq]; omega, ?_⟩
        rw [show (ys.take at_).map PV.str ++ [PV.str lr.nm] ++ (ys.drop (at_ + 1)).map PV.str = (ys.take at_ ++ [lr.nm] ++ ys.drop (at_ + 1)).map PV.str by rw [List.map_append, List.map_append]; rfl]
        refine ⟨_, _, by walk_at "subs", .refl _, ys.take at_ ++ [lr.nm] ++ ys.drop (at_ + 1), _, _, _, (put_len h1).trans yl, put_nodup ynd (fun z => (yx _ z).2 (List.mem_map_of_mem hlm)), fun n hn => ?_, fun n hn => ?_, rfl, he⟩
        · rcases put_mem hn with z | z
          · exact .inl z
          · exact .inr ⟨(yx n z).1.nameB, (yx n z).2⟩
        · rcases put_mem hn with z | z
          · rw [z]; exact lrl
          · exact (yx n z).1.len
      · exact ⟨_, _, by walk_at "subs", .refl _, ys, _, _, _, yl, ynd, fun n hn => .inr ⟨(yx n hn).1.nameB, (yx n hn).2⟩, fun n hn => (yx n hn).1.len, rfl, he⟩
    clear he
    rintro σ M10 ⟨nms, w11, w12, w13, nl, nnd, nok, nle, rfl, he⟩
    have c := hcok nms nl nnd nok
    obtain ⟨q2, eq2, pm2, sn2⟩ := sort_rows (rs := offN qs lr.nm ++ rowsN nms lr.ow lr.ws) (c.names g.ok)
    have R : CR qs t' (.cut ur.nm lr.nm nms) q2 (cutT ur.nm lr.nm nms none t') := ⟨ur, lr, c, pm2, sn2, rfl⟩
    obtain ⟨g2, ql2⟩ := g.after (by omega) (by omega) R
    walk_at "on"
    refine ⟨us, qs, t', ur.nm, lr.nm, nms, some (q2, cutT ur.nm lr.nm nms none t'), rfl, g, by omega, nle, R, ?_⟩
    walk_at "on"
    have hau : ∀ r ∈ qs, r.nm = ur.nm → AT ur.nm r.ws.length t' := fun r hr e => e ▸ g.ar r hr
    have hfin : ∀ q3, q3.Perm (offN qs lr.nm ++ rowsN nms lr.ow lr.ws) → SortedN q3 → q3 = q2 := fun q3 p3 s3 => (CR.fnl (t1 := cutT ur.nm lr.nm nms none t') ⟨ur, lr, c, p3, s3, rfl⟩ R).1
    refine ⟨qs, t', ur.nm, lr.nm, nms, rfl, g.ok, by have := g.le; omega, g.bt, by omega, nle, hau, fun ru r q3 c3 p3 s3 => ?_, fun nc M2 sb => nc ⟨ur, lr, c⟩⟩
    have er : r = lr := Option.some.inj (c3.fx.symm.trans c.fx)
    subst er
    have e3 := hfin q3 p3 s3
    subst e3
    have sure := fun {k : Nat} {y : Str} (hk : nms[k]? = some y) {q rr} hp => @cut_sure us us qs q3 t' ur.nm r.nm nms g g2 ur r c k y hk q rr hp
    clear hcok R pm2 sn2 eq2 c3 p3 s3 hfin hau c
    walk_at "on"
    refine ⟨_, _, rfl, (PureD.optR2 (o := some (q3, cutT ur.nm r.nm nms none t')) fun x e => by cases e; exact ⟨g2.ok, g2.bt.txt⟩).td, ?_⟩
    generalize cutT ur.nm r.nm nms none t' = t2 at g2 sure ⊢
    walk_at "on"
    have sz2 := g2.sz
    refine ⟨t2, [], [], rfl, g2.bt, by omega, by decide, by decide, by decide, fun ln M11 hln sb11 hM11 => ?_⟩
    replace he := he.addn sb11 hln hM11
    have nlen := nodes_len (t := t2) (p := []) (s := [])
    walk_at "on"
    refine ⟨fun i => .str (nmE ((nodesT t2 [] []).getD i nd0)), by rw [List.length_map]; omega, fun M4 sb4 => .inl (sb4 _ _ hM11), fun i z M4 Q3 hz sb4 k3 => ?_, fun Dl l hD hl => ?_⟩
    · obtain ⟨e, he, rfl⟩ := nd_at hz
      simp only [getD_at he] at k3
      obtain ⟨_, n, cs, en⟩ := nodes_abs (List.mem_of_getElem? he)
      obtain ⟨e1, e2, e3⟩ := e
      cases en
      refine ⟨_, rfl, ?_⟩
      walk_at "on"
      exact k3 _ (.refl _)
    have hl : l = (nmT t2).map PV.str := by
      rw [hl, List.length_map, ← nodes_names]
      have e : nodesT t2 [] [] = mk (nodesT t2 [] []).length fun i => (nodesT t2 [] []).getD i nd0 := mk_of _ nd0
      conv => rhs; rw [e]
      rw [mk_map, mk_map]
    subst hl
    replace he := he.new (o := .lst ((nmT t2).map PV.str)) hD
    clear hln sb11 hM11 hD
    clear hl
    walk_at "on"
    refine ⟨by rw [wl]; omega, ?_⟩
    refine ⟨fun j σ M' => ∃ w13 : Option PV, σ = [some (.ref a), some (.ref s), some (gameV rs t), some (gameV qs t'), some (.int (0 + (i : Int))), some (.ref lp), some (.str ur.nm), some (.str r.nm), some (.int ((ur.ws.map PV.int).length : Nat)), some (strsV nms), some (.int (at_ : Int)), some (gameV q3 t2), some (.ref Dl), w13, none, none] ∧ He K [] a s ns M1 M' [(Dl, .lst ((nmT t2).map PV.str))], ⟨_, _, by walk_at "subs", .refl _, _, rfl, he.sel [0] (by decide) rfl⟩, ?_, ?_, ?_⟩
    · intros; trivial
    · clear he
      rintro j z σ M12 hz ⟨w13, rfl, he⟩
      obtain ⟨hj, rfl⟩ := rng_get hz
      rw [wl, Int.toNat_natCast] at hj
      rw [show (0 : Int) + (j : Int) = (j : Int) by omega]
      obtain ⟨y, hy⟩ : ∃ y, nms[j]? = some y := ⟨_, List.getElem?_eq_getElem (by omega)⟩
      have hya : atI (nms.map PV.str) (j : Int) = some (.str y) := atI_nat (by rw [List.getElem?_map, hy]; rfl)
      have nml : (nms.map PV.str).length = nms.length := List.length_map _
      walk_at "on"
      refine ⟨fun b M2 => b = false ∧ He K [] a s ns M1 M2 [(Dl, .lst ((nmT t2).map PV.str))], ?_, ?_⟩
      · walk_at "on"
        refine br_dec (fun h => ?_) (fun h => ?_)
        · obtain ⟨q, rr, e⟩ := paths_some h
          have hs := sure hy e
          obtain ⟨p1, ps1, p2⟩ := paths_at g2.bt (x := y) (q := q) (by rw [e]; exact List.mem_cons_self)
          have qa := abv_len p2
          have cl := comT_len (rr.map fun p => abv p t2) (abv q t2)
          walk_at "on"
          refine ⟨rowsV q3, t2, y, q, rr, rfl, g2.bt, by omega, e, ?_⟩
          have pm := List.mergeSort_perm ((comT (abv q t2) (rr.map fun p => abv p t2)).map abE) (PySem.W.dataLe false toD)
          refine ⟨by rw [pm.length_eq, List.length_map]; omega, pair_txt _ _, fun z hz => abE_txt z (pm.mem_iff.mp hz), fun b hb => ?_⟩
          have hb : b = true := hb.mpr (pm.mem_iff.mpr (abE_mem (a := (ur.nm, (j : Int))).mpr hs))
          subst hb
          exact ⟨_, .refl _, rfl, he⟩
        · exact ⟨_, .refl _, rfl, he⟩
      clear he
      rintro b M13 ⟨rfl, he⟩
      walk_at "on"
      exact ⟨_, _, by walk_at "subs", .refl _, _, rfl, he⟩
    · clear he
      rintro σ M12 ⟨w13, rfl, he⟩
      replace he := he.nil
      walk_at "on"
      refine ⟨us, q3, t2, rfl, g2, fun M13 sb13 => ?_⟩
      replace he := he.step sb13
      walk_at "on"
      exact ⟨_, _, by walk_at "subs", .refl _, q3, t2, _, _, _, _, _, _, _, _, _, _, by omega, g2, rfl, he⟩
  · clear he
    rintro σ M5 ⟨qs, t', w4, w5, w6, w7, w8, w9, w10, w11, w12, w13, ql, g, rfl, he⟩
    walk_at "on"
    refine ⟨us, rs, t, rfl, g0, fun M7 sb7 => ?_⟩
    walk_at "on"
    exact ⟨M, k0 _ (he.step sb7).keep, k⟩

theorem all_mk {P : Program} {w : World} {K : Kf} {h : Heap} {mg : Str → Option Value} {fa f1 f2 f3 f4 f5 f6 f7 f8 f9 f10 f11 f12 f13 f14 f15 f16 f17 f18 f19 f20 f21 f22 f23 f24 f25 f26 f27 f28 f29 f30 f31 f32 f33 f34 f35 f36 f37 cX_GameError cX_BadPath cX_BadStep : Addr} (X : K.In h) (G : h.Ns mainGlobals mg) (hfa : mg "law" = some (.ref fa))
    {od1 an1 od2 an2 od3 an3 od4 an4 od5 an5 od6 an6 od7 an7 od8 an8 od9 an9 od10 an10 od11 an11 od12 an12 od13 an13 od14 an14 od15 an15 od16 an16 od17 an17 od18 an18 od19 an19 od20 an20 od21 an21 od22 an22 od23 an23 od24 an24 od25 an25 od26 an26 od27 an27 od28 an28 od29 an29 od30 an30 od31 an31 od32 an32 od33 an33 od34 an34 od35 an35 od36 an36 od37 an37 : Option Addr} {sl1 sl2 sl3 sl4 sl5 sl6 sl7 sl8 sl9 sl10 sl11 sl12 sl13 sl14 sl15 sl16 sl17 sl18 sl19 sl20 sl21 sl22 sl23 sl24 sl25 sl26 sl27 sl28 sl29 sl30 sl31 sl32 sl33 sl34 sl35 sl36 sl37 : Array (Option Value)} {oc1 kV1 dc1 pm1 cd1 ct1 oc2 kV2 dc2 pm2 cd2 ct2 oc3 kV3 dc3 pm3 cd3 ct3 oc4 kV4 dc4 pm4 cd4 ct4 oc5 kV5 dc5 pm5 cd5 ct5 oc6 kV6 dc6 pm6 cd6 ct6 oc7 kV7 dc7 pm7 cd7 ct7 oc8 kV8 dc8 pm8 cd8 ct8 oc9 kV9 dc9 pm9 cd9 ct9 oc10 kV10 dc10 pm10 cd10 ct10 oc11 kV11 dc11 pm11 cd11 ct11 oc12 kV12 dc12 pm12 cd12 ct12 oc13 kV13 dc13 pm13 cd13 ct13 oc14 kV14 dc14 pm14 cd14 ct14 oc15 kV15 dc15 pm15 cd15 ct15 oc16 kV16 dc16 pm16 cd16 ct16 oc17 kV17 dc17 pm17 cd17 ct17 oc18 kV18 dc18 pm18 cd18 ct18 oc19 kV19 dc19 pm19 cd19 ct19 oc20 kV20 dc20 pm20 cd20 ct20 oc21 kV21 dc21 pm21 cd21 ct21 oc22 kV22 dc22 pm22 cd22 ct22 oc23 kV23 dc23 pm23 cd23 ct23 oc24 kV24 dc24 pm24 cd24 ct24 oc25 kV25 dc25 pm25 cd25 ct25 oc26 kV26 dc26 pm26 cd26 ct26 oc27 kV27 dc27 pm27 cd27 ct27 oc28 kV28 dc28 pm28 cd28 ct28 oc29 kV29 dc29 pm29 cd29 ct29 oc30 kV30 dc30 pm30 cd30 ct30 oc31 kV31 dc31 pm31 cd31 ct31 oc32 kV32 dc32 pm32 cd32 ct32 oc33 kV33 dc33 pm33 cd33 ct33 oc34 kV34 dc34 pm34 cd34 ct34 oc35 kV35 dc35 pm35 cd35 ct35 oc36 kV36 dc36 pm36 cd36 ct36 oc37 kV37 dc37 pm37 cd37 ct37 : Value} {tk_DIGITS : Tok} {tk_LETTERS : Tok} {tk_LONGEST_NAME : Tok} {tk_MOST_MOVES : Tok} 
    (xa_GameError : PySem.W.nsIn K mainGlobals "GameError" = some (some (.ref cX_GameError)))
    (xa_BadPath : PySem.W.nsIn K mainGlobals "BadPath" = some (some (.ref cX_BadPath)))
    (xa_BadStep : PySem.W.nsIn K mainGlobals "BadStep" = some (some (.ref cX_BadStep)))
    (xq_BadStep : PySem.W.excIn K cX_BadStep [.type "ValueError", .type "Exception", .type "BaseException", .type "object"] "ValueError.__new__" = true) (xk_BadStep : PySem.W.keepIn K (.ref cX_BadStep) = true) (xs_BadStep : PySem.W.subIn K (.ref cX_BadStep) (.type "BaseException") = some true) (xt_BadStep : PySem.W.typeIn K (.ref cX_BadStep) = some (.type "type")) (xh_BadStep : PySem.W.hasDictIn K cX_BadStep = true)
    (xg_BadStep : PySem.W.findIn K (.ref cX_BadStep) "__getattribute__" = some (some (.builtin "BaseException.__getattribute__"))) (xG_BadStep : PySem.W.findIn K (.ref cX_BadStep) "__getattr__" = some none) (xA_BadStep : PySem.W.findIn K (.ref cX_BadStep) "__class__" = some (some (.builtin "object.__class__"))) (xN_BadStep : PySem.W.specialIn K (.builtin "object.__class__") "__get__" = some (some (.builtin "getset_descriptor.__get__"))) (xT_BadStep : PySem.W.takesIn K (.builtin "object.__class__") = some true) (xM_BadStep : PySem.W.mroIn K cX_BadStep (.type "object") = some true)
    (xm_BadStep : PySem.W.subIn K (.ref cX_BadStep) (.ref cX_BadStep) = some true)
    (xi_BadStep_GameError : PySem.W.kitOne K (.ref cX_BadStep) (.ref cX_GameError) = some true)
    (xi_BadStep_ValueError : PySem.W.kitOne K (.ref cX_BadStep) (.type "ValueError") = some true)
    (xi_BadStep_BadGame : PySem.W.kitOne K (.ref cX_BadStep) (.type "BadGame") = some false)
    (xi_BadStep_BadPath : PySem.W.kitOne K (.ref cX_BadStep) (.ref cX_BadPath) = some false)
    (a1 : PySem.W.nsIn K mainGlobals "_law_draw" = some (some (.ref f1)))
    (l1 : K.lookup f1 = some ⟨oc1, od1, .func (PySem.W.fnOf "_law_draw" "_law_draw" (defArgs s__law_draw) (defBody s__law_draw) (defScope s__law_draw) .none kV1 dc1 pm1 an1 cd1 ct1), sl1⟩) (c1 : PySem.W.codeIn K cd1 "_law_draw" = true) (k1 : PySem.W.keepIn K (.ref f1) = true)
    (a2 : PySem.W.nsIn K mainGlobals "_law_source" = some (some (.ref f2)))
    (l2 : K.lookup f2 = some ⟨oc2, od2, .func (PySem.W.fnOf "_law_source" "_law_source" (defArgs s__law_source) (defBody s__law_source) (defScope s__law_source) .none kV2 dc2 pm2 an2 cd2 ct2), sl2⟩) (c2 : PySem.W.codeIn K cd2 "_law_source" = true) (k2 : PySem.W.keepIn K (.ref f2) = true)
    (a3 : PySem.W.nsIn K mainGlobals "_law_gcd" = some (some (.ref f3)))
    (l3 : K.lookup f3 = some ⟨oc3, od3, .func (PySem.W.fnOf "_law_gcd" "_law_gcd" (defArgs s__law_gcd) (defBody s__law_gcd) (defScope s__law_gcd) .none kV3 dc3 pm3 an3 cd3 ct3), sl3⟩) (c3 : PySem.W.codeIn K cd3 "_law_gcd" = true) (k3 : PySem.W.keepIn K (.ref f3) = true)
    (a4 : PySem.W.nsIn K mainGlobals "_law_reduced" = some (some (.ref f4)))
    (l4 : K.lookup f4 = some ⟨oc4, od4, .func (PySem.W.fnOf "_law_reduced" "_law_reduced" (defArgs s__law_reduced) (defBody s__law_reduced) (defScope s__law_reduced) .none kV4 dc4 pm4 an4 cd4 ct4), sl4⟩) (c4 : PySem.W.codeIn K cd4 "_law_reduced" = true) (k4 : PySem.W.keepIn K (.ref f4) = true)
    (a5 : PySem.W.nsIn K mainGlobals "_law_name" = some (some (.ref f5)))
    (l5 : K.lookup f5 = some ⟨oc5, od5, .func (PySem.W.fnOf "_law_name" "_law_name" (defArgs s__law_name) (defBody s__law_name) (defScope s__law_name) .none kV5 dc5 pm5 an5 cd5 ct5), sl5⟩) (c5 : PySem.W.codeIn K cd5 "_law_name" = true) (k5 : PySem.W.keepIn K (.ref f5) = true)
    (a6 : PySem.W.nsIn K mainGlobals "row_of" = some (some (.ref f6)))
    (l6 : K.lookup f6 = some ⟨oc6, od6, .func (PySem.W.fnOf "row_of" "row_of" (defArgs s_row_of) (defBody s_row_of) (defScope s_row_of) .none kV6 dc6 pm6 an6 cd6 ct6), sl6⟩) (c6 : PySem.W.codeIn K cd6 "row_of" = true) (k6 : PySem.W.keepIn K (.ref f6) = true)
    (a7 : PySem.W.nsIn K mainGlobals "_law_sets" = some (some (.ref f7)))
    (l7 : K.lookup f7 = some ⟨oc7, od7, .func (PySem.W.fnOf "_law_sets" "_law_sets" (defArgs s__law_sets) (defBody s__law_sets) (defScope s__law_sets) .none kV7 dc7 pm7 an7 cd7 ct7), sl7⟩) (c7 : PySem.W.codeIn K cd7 "_law_sets" = true) (k7 : PySem.W.keepIn K (.ref f7) = true)
    (a8 : PySem.W.nsIn K mainGlobals "_law_tree" = some (some (.ref f8)))
    (l8 : K.lookup f8 = some ⟨oc8, od8, .func (PySem.W.fnOf "_law_tree" "_law_tree" (defArgs s__law_tree) (defBody s__law_tree) (defScope s__law_tree) .none kV8 dc8 pm8 an8 cd8 ct8), sl8⟩) (c8 : PySem.W.codeIn K cd8 "_law_tree" = true) (k8 : PySem.W.keepIn K (.ref f8) = true)
    (a9 : PySem.W.nsIn K mainGlobals "_law_row" = some (some (.ref f9)))
    (l9 : K.lookup f9 = some ⟨oc9, od9, .func (PySem.W.fnOf "_law_row" "_law_row" (defArgs s__law_row) (defBody s__law_row) (defScope s__law_row) .none kV9 dc9 pm9 an9 cd9 ct9), sl9⟩) (c9 : PySem.W.codeIn K cd9 "_law_row" = true) (k9 : PySem.W.keepIn K (.ref f9) = true)
    (a10 : PySem.W.nsIn K mainGlobals "_law_told" = some (some (.ref f10)))
    (l10 : K.lookup f10 = some ⟨oc10, od10, .func (PySem.W.fnOf "_law_told" "_law_told" (defArgs s__law_told) (defBody s__law_told) (defScope s__law_told) .none kV10 dc10 pm10 an10 cd10 ct10), sl10⟩) (c10 : PySem.W.codeIn K cd10 "_law_told" = true) (k10 : PySem.W.keepIn K (.ref f10) = true)
    (a11 : PySem.W.nsIn K mainGlobals "is_name" = some (some (.ref f11)))
    (l11 : K.lookup f11 = some ⟨oc11, od11, .func (PySem.W.fnOf "is_name" "is_name" (defArgs s_is_name) (defBody s_is_name) (defScope s_is_name) .none kV11 dc11 pm11 an11 cd11 ct11), sl11⟩) (c11 : PySem.W.codeIn K cd11 "is_name" = true) (k11 : PySem.W.keepIn K (.ref f11) = true)
    (a12 : PySem.W.nsIn K mainGlobals "is_new_name" = some (some (.ref f12)))
    (l12 : K.lookup f12 = some ⟨oc12, od12, .func (PySem.W.fnOf "is_new_name" "is_new_name" (defArgs s_is_new_name) (defBody s_is_new_name) (defScope s_is_new_name) .none kV12 dc12 pm12 an12 cd12 ct12), sl12⟩) (c12 : PySem.W.codeIn K cd12 "is_new_name" = true) (k12 : PySem.W.keepIn K (.ref f12) = true)
    (a13 : PySem.W.nsIn K mainGlobals "_law_is_name" = some (some (.ref f13)))
    (l13 : K.lookup f13 = some ⟨oc13, od13, .func (PySem.W.fnOf "_law_is_name" "_law_is_name" (defArgs s__law_is_name) (defBody s__law_is_name) (defScope s__law_is_name) .none kV13 dc13 pm13 an13 cd13 ct13), sl13⟩) (c13 : PySem.W.codeIn K cd13 "_law_is_name" = true) (k13 : PySem.W.keepIn K (.ref f13) = true)
    (a14 : PySem.W.nsIn K mainGlobals "_law_is_new" = some (some (.ref f14)))
    (l14 : K.lookup f14 = some ⟨oc14, od14, .func (PySem.W.fnOf "_law_is_new" "_law_is_new" (defArgs s__law_is_new) (defBody s__law_is_new) (defScope s__law_is_new) .none kV14 dc14 pm14 an14 cd14 ct14), sl14⟩) (c14 : PySem.W.codeIn K cd14 "_law_is_new" = true) (k14 : PySem.W.keepIn K (.ref f14) = true)
    (a15 : PySem.W.nsIn K mainGlobals "_law_game" = some (some (.ref f15)))
    (l15 : K.lookup f15 = some ⟨oc15, od15, .func (PySem.W.fnOf "_law_game" "_law_game" (defArgs s__law_game) (defBody s__law_game) (defScope s__law_game) .none kV15 dc15 pm15 an15 cd15 ct15), sl15⟩) (c15 : PySem.W.codeIn K cd15 "_law_game" = true) (k15 : PySem.W.keepIn K (.ref f15) = true)
    (a16 : PySem.W.nsIn K mainGlobals "_law_nodes" = some (some (.ref f16)))
    (l16 : K.lookup f16 = some ⟨oc16, od16, .func (PySem.W.fnOf "_law_nodes" "_law_nodes" (defArgs s__law_nodes) (defBody s__law_nodes) (defScope s__law_nodes) .none kV16 dc16 pm16 an16 cd16 ct16), sl16⟩) (c16 : PySem.W.codeIn K cd16 "_law_nodes" = true) (k16 : PySem.W.keepIn K (.ref f16) = true)
    (a17 : PySem.W.nsIn K mainGlobals "without_row" = some (some (.ref f17)))
    (l17 : K.lookup f17 = some ⟨oc17, od17, .func (PySem.W.fnOf "without_row" "without_row" (defArgs s_without_row) (defBody s_without_row) (defScope s_without_row) .none kV17 dc17 pm17 an17 cd17 ct17), sl17⟩) (c17 : PySem.W.codeIn K cd17 "without_row" = true) (k17 : PySem.W.keepIn K (.ref f17) = true)
    (a18 : PySem.W.nsIn K mainGlobals "with_row" = some (some (.ref f18)))
    (l18 : K.lookup f18 = some ⟨oc18, od18, .func (PySem.W.fnOf "with_row" "with_row" (defArgs s_with_row) (defBody s_with_row) (defScope s_with_row) .none kV18 dc18 pm18 an18 cd18 ct18), sl18⟩) (c18 : PySem.W.codeIn K cd18 "with_row" = true) (k18 : PySem.W.keepIn K (.ref f18) = true)
    (a19 : PySem.W.nsIn K mainGlobals "_cut_nodes" = some (some (.ref f19)))
    (l19 : K.lookup f19 = some ⟨oc19, od19, .func (PySem.W.fnOf "_cut_nodes" "_cut_nodes" (defArgs s__cut_nodes) (defBody s__cut_nodes) (defScope s__cut_nodes) .none kV19 dc19 pm19 an19 cd19 ct19), sl19⟩) (c19 : PySem.W.codeIn K cd19 "_cut_nodes" = true) (k19 : PySem.W.keepIn K (.ref f19) = true)
    (a20 : PySem.W.nsIn K mainGlobals "cut_up" = some (some (.ref f20)))
    (l20 : K.lookup f20 = some ⟨oc20, od20, .func (PySem.W.fnOf "cut_up" "cut_up" (defArgs s_cut_up) (defBody s_cut_up) (defScope s_cut_up) .none kV20 dc20 pm20 an20 cd20 ct20), sl20⟩) (c20 : PySem.W.codeIn K cd20 "cut_up" = true) (k20 : PySem.W.keepIn K (.ref f20) = true)
    (a21 : PySem.W.nsIn K mainGlobals "_law_cut" = some (some (.ref f21)))
    (l21 : K.lookup f21 = some ⟨oc21, od21, .func (PySem.W.fnOf "_law_cut" "_law_cut" (defArgs s__law_cut) (defBody s__law_cut) (defScope s__law_cut) .none kV21 dc21 pm21 an21 cd21 ct21), sl21⟩) (c21 : PySem.W.codeIn K cd21 "_law_cut" = true) (k21 : PySem.W.keepIn K (.ref f21) = true)
    (a22 : PySem.W.nsIn K mainGlobals "_law_cut_step" = some (some (.ref f22)))
    (l22 : K.lookup f22 = some ⟨oc22, od22, .func (PySem.W.fnOf "_law_cut_step" "_law_cut_step" (defArgs s__law_cut_step) (defBody s__law_cut_step) (defScope s__law_cut_step) .none kV22 dc22 pm22 an22 cd22 ct22), sl22⟩) (c22 : PySem.W.codeIn K cd22 "_law_cut_step" = true) (k22 : PySem.W.keepIn K (.ref f22) = true)
    (a23 : PySem.W.nsIn K mainGlobals "_law_names" = some (some (.ref f23)))
    (l23 : K.lookup f23 = some ⟨oc23, od23, .func (PySem.W.fnOf "_law_names" "_law_names" (defArgs s__law_names) (defBody s__law_names) (defScope s__law_names) .none kV23 dc23 pm23 an23 cd23 ct23), sl23⟩) (c23 : PySem.W.codeIn K cd23 "_law_names" = true) (k23 : PySem.W.keepIn K (.ref f23) = true)
    (a24 : PySem.W.nsIn K mainGlobals "above" = some (some (.ref f24)))
    (l24 : K.lookup f24 = some ⟨oc24, od24, .func (PySem.W.fnOf "above" "above" (defArgs s_above) (defBody s_above) (defScope s_above) .none kV24 dc24 pm24 an24 cd24 ct24), sl24⟩) (c24 : PySem.W.codeIn K cd24 "above" = true) (k24 : PySem.W.keepIn K (.ref f24) = true)
    (a25 : PySem.W.nsIn K mainGlobals "move_count" = some (some (.ref f25)))
    (l25 : K.lookup f25 = some ⟨oc25, od25, .func (PySem.W.fnOf "move_count" "move_count" (defArgs s_move_count) (defBody s_move_count) (defScope s_move_count) .none kV25 dc25 pm25 an25 cd25 ct25), sl25⟩) (c25 : PySem.W.codeIn K cd25 "move_count" = true) (k25 : PySem.W.keepIn K (.ref f25) = true)
    (a26 : PySem.W.nsIn K mainGlobals "fresh_names" = some (some (.ref f26)))
    (l26 : K.lookup f26 = some ⟨oc26, od26, .func (PySem.W.fnOf "fresh_names" "fresh_names" (defArgs s_fresh_names) (defBody s_fresh_names) (defScope s_fresh_names) .none kV26 dc26 pm26 an26 cd26 ct26), sl26⟩) (c26 : PySem.W.codeIn K cd26 "fresh_names" = true) (k26 : PySem.W.keepIn K (.ref f26) = true)
    (a27 : PySem.W.nsIn K mainGlobals "sets_in" = some (some (.ref f27)))
    (l27 : K.lookup f27 = some ⟨oc27, od27, .func (PySem.W.fnOf "sets_in" "sets_in" (defArgs s_sets_in) (defBody s_sets_in) (defScope s_sets_in) .none kV27 dc27 pm27 an27 cd27 ct27), sl27⟩) (c27 : PySem.W.codeIn K cd27 "sets_in" = true) (k27 : PySem.W.keepIn K (.ref f27) = true)
    (a28 : PySem.W.nsIn K mainGlobals "paths_of" = some (some (.ref f28)))
    (l28 : K.lookup f28 = some ⟨oc28, od28, .func (PySem.W.fnOf "paths_of" "paths_of" (defArgs s_paths_of) (defBody s_paths_of) (defScope s_paths_of) .none kV28 dc28 pm28 an28 cd28 ct28), sl28⟩) (c28 : PySem.W.codeIn K cd28 "paths_of" = true) (k28 : PySem.W.keepIn K (.ref f28) = true)
    (a29 : PySem.W.nsIn K mainGlobals "apply_step" = some (some (.ref f29)))
    (l29 : K.lookup f29 = some ⟨oc29, od29, .func (PySem.W.fnOf "apply_step" "apply_step" (defArgs s_apply_step) (defBody s_apply_step) (defScope s_apply_step) .none kV29 dc29 pm29 an29 cd29 ct29), sl29⟩) (c29 : PySem.W.codeIn K cd29 "apply_step" = true) (k29 : PySem.W.keepIn K (.ref f29) = true)
    (a30 : PySem.W.nsIn K mainGlobals "step_fits" = some (some (.ref f30)))
    (l30 : K.lookup f30 = some ⟨oc30, od30, .func (PySem.W.fnOf "step_fits" "step_fits" (defArgs s_step_fits) (defBody s_step_fits) (defScope s_step_fits) .none kV30 dc30 pm30 an30 cd30 ct30), sl30⟩) (c30 : PySem.W.codeIn K cd30 "step_fits" = true) (k30 : PySem.W.keepIn K (.ref f30) = true)
    (a31 : PySem.W.nsIn K mainGlobals "sure_past" = some (some (.ref f31)))
    (l31 : K.lookup f31 = some ⟨oc31, od31, .func (PySem.W.fnOf "sure_past" "sure_past" (defArgs s_sure_past) (defBody s_sure_past) (defScope s_sure_past) .none kV31 dc31 pm31 an31 cd31 ct31), sl31⟩) (c31 : PySem.W.codeIn K cd31 "sure_past" = true) (k31 : PySem.W.keepIn K (.ref f31) = true)
    (a32 : PySem.W.nsIn K mainGlobals "cut_pairs" = some (some (.ref f32)))
    (l32 : K.lookup f32 = some ⟨oc32, od32, .func (PySem.W.fnOf "cut_pairs" "cut_pairs" (defArgs s_cut_pairs) (defBody s_cut_pairs) (defScope s_cut_pairs) .none kV32 dc32 pm32 an32 cd32 ct32), sl32⟩) (c32 : PySem.W.codeIn K cd32 "cut_pairs" = true) (k32 : PySem.W.keepIn K (.ref f32) = true)
    (a33 : PySem.W.nsIn K mainGlobals "_law_sure" = some (some (.ref f33)))
    (l33 : K.lookup f33 = some ⟨oc33, od33, .func (PySem.W.fnOf "_law_sure" "_law_sure" (defArgs s__law_sure) (defBody s__law_sure) (defScope s__law_sure) .none kV33 dc33 pm33 an33 cd33 ct33), sl33⟩) (c33 : PySem.W.codeIn K cd33 "_law_sure" = true) (k33 : PySem.W.keepIn K (.ref f33) = true)
    (a34 : PySem.W.nsIn K mainGlobals "_law_behind" = some (some (.ref f34)))
    (l34 : K.lookup f34 = some ⟨oc34, od34, .func (PySem.W.fnOf "_law_behind" "_law_behind" (defArgs s__law_behind) (defBody s__law_behind) (defScope s__law_behind) .none kV34 dc34 pm34 an34 cd34 ct34), sl34⟩) (c34 : PySem.W.codeIn K cd34 "_law_behind" = true) (k34 : PySem.W.keepIn K (.ref f34) = true)
    (a35 : PySem.W.nsIn K mainGlobals "_law_cuts" = some (some (.ref f35)))
    (l35 : K.lookup f35 = some ⟨oc35, od35, .func (PySem.W.fnOf "_law_cuts" "_law_cuts" (defArgs s__law_cuts) (defBody s__law_cuts) (defScope s__law_cuts) .none kV35 dc35 pm35 an35 cd35 ct35), sl35⟩) (c35 : PySem.W.codeIn K cd35 "_law_cuts" = true) (k35 : PySem.W.keepIn K (.ref f35) = true)
    (a36 : PySem.W.nsIn K mainGlobals "_law_asked" = some (some (.ref f36)))
    (l36 : K.lookup f36 = some ⟨oc36, od36, .func (PySem.W.fnOf "_law_asked" "_law_asked" (defArgs s__law_asked) (defBody s__law_asked) (defScope s__law_asked) .none kV36 dc36 pm36 an36 cd36 ct36), sl36⟩) (c36 : PySem.W.codeIn K cd36 "_law_asked" = true) (k36 : PySem.W.keepIn K (.ref f36) = true)
    (a37 : PySem.W.nsIn K mainGlobals "law" = some (some (.ref f37)))
    (l37 : K.lookup f37 = some ⟨oc37, od37, .func (PySem.W.fnOf "law" "law" (defArgs s_law) (defBody s_law) (defScope s_law) .none kV37 dc37 pm37 an37 cd37 ct37), sl37⟩) (c37 : PySem.W.codeIn K cd37 "law" = true) (k37 : PySem.W.keepIn K (.ref f37) = true)
    (z_abs : PySem.W.nsIn K mainGlobals "abs" = some none)
    (z_bool : PySem.W.nsIn K mainGlobals "bool" = some none)
    (z_dict : PySem.W.nsIn K mainGlobals "dict" = some none)
    (z_enumerate : PySem.W.nsIn K mainGlobals "enumerate" = some none)
    (z_int : PySem.W.nsIn K mainGlobals "int" = some none)
    (z_isinstance : PySem.W.nsIn K mainGlobals "isinstance" = some none)
    (z_len : PySem.W.nsIn K mainGlobals "len" = some none)
    (z_list : PySem.W.nsIn K mainGlobals "list" = some none)
    (z_range : PySem.W.nsIn K mainGlobals "range" = some none)
    (z_sorted : PySem.W.nsIn K mainGlobals "sorted" = some none)
    (z_str : PySem.W.nsIn K mainGlobals "str" = some none)
    (z_sum : PySem.W.nsIn K mainGlobals "sum" = some none)
    (z_tuple : PySem.W.nsIn K mainGlobals "tuple" = some none)
    (y_gcd : PySem.W.nsIn K mainGlobals "gcd" = some (some (.builtin "math.gcd")))
    (x_DIGITS : PySem.W.nsIn K mainGlobals "DIGITS" = some (some (.str "0123456789" tk_DIGITS)))
    (x_LETTERS : PySem.W.nsIn K mainGlobals "LETTERS" = some (some (.str "abcdefghijklmnopqrstuvwxyz" tk_LETTERS)))
    (x_LONGEST_NAME : PySem.W.nsIn K mainGlobals "LONGEST_NAME" = some (some (.int 12 tk_LONGEST_NAME)))
    (x_MOST_MOVES : PySem.W.nsIn K mainGlobals "MOST_MOVES" = some (some (.int 64 tk_MOST_MOVES)))
    : ∃ fd : FuncData, (∀ (s : Shared) (v : Value), BindsTo s fd ⟨[v], []⟩ [("script", v)]) ∧ ∀ base : Heap, K.In base → base.Ns mainGlobals mg → Sure P base → FnOk P w K mg base CX0 57 fa fd ["script"] (concF K (spLaw K)) := by
  have e := hfa.symm.trans (PySem.W.mg_of X G a37)
  cases e
  have T : Blt mg := ⟨PySem.W.mg_none_of X G z_abs, PySem.W.mg_none_of X G z_bool, PySem.W.mg_none_of X G z_dict, PySem.W.mg_none_of X G z_enumerate, PySem.W.mg_none_of X G z_int, PySem.W.mg_none_of X G z_isinstance, PySem.W.mg_none_of X G z_len, PySem.W.mg_none_of X G z_list, PySem.W.mg_none_of X G z_range, PySem.W.mg_none_of X G z_sorted, PySem.W.mg_none_of X G z_str, PySem.W.mg_none_of X G z_sum, PySem.W.mg_none_of X G z_tuple, PySem.W.mg_of X G y_gcd, ⟨_, PySem.W.mg_of X G x_DIGITS⟩, ⟨_, PySem.W.mg_of X G x_LETTERS⟩, ⟨_, PySem.W.mg_of X G x_LONGEST_NAME⟩, ⟨_, PySem.W.mg_of X G x_MOST_MOVES⟩⟩
  have e_GameError := clsA_of xa_GameError
  have e_BadPath := clsA_of xa_BadPath
  have e_BadStep := clsA_of xa_BadStep
  have XC : Xc K mg := ⟨by rw [e_GameError]; exact PySem.W.mg_of X G xa_GameError, by rw [e_BadPath]; exact PySem.W.mg_of X G xa_BadPath, by rw [e_BadStep]; exact PySem.W.mg_of X G xa_BadStep, by rw [e_BadStep]; exact ⟨PySem.W.mg_of X G xa_BadStep, xq_BadStep, xk_BadStep, xs_BadStep, xt_BadStep, xh_BadStep⟩, by rw [e_BadStep]; exact ⟨xg_BadStep, xG_BadStep, xs_BadStep, xh_BadStep, xA_BadStep, xN_BadStep, xT_BadStep, xM_BadStep⟩, by rw [e_BadStep]; exact PySem.W.exm_ref xs_BadStep xh_BadStep xt_BadStep xm_BadStep, by rw [e_BadStep, e_GameError]; exact xi_BadStep_GameError, by rw [e_BadStep]; exact xi_BadStep_ValueError, by rw [e_BadStep]; exact xi_BadStep_BadGame, by rw [e_BadStep, e_BadPath]; exact xi_BadStep_BadPath⟩
  have H__law_draw : Here K mg "_law_draw" s__law_draw ["script", "source", "limit"] := here_of X G a1 l1 c1 k1 fun _ _ _ _ _ _ us hl => match us, hl with | [_, _, _], _ => rfl
  have H__law_source : Here K mg "_law_source" s__law_source ["script"] := here_of X G a2 l2 c2 k2 fun _ _ _ _ _ _ us hl => match us, hl with | [_], _ => rfl
  have H__law_gcd : Here K mg "_law_gcd" s__law_gcd ["a", "b"] := here_of X G a3 l3 c3 k3 fun _ _ _ _ _ _ us hl => match us, hl with | [_, _], _ => rfl
  have H__law_reduced : Here K mg "_law_reduced" s__law_reduced ["weights"] := here_of X G a4 l4 c4 k4 fun _ _ _ _ _ _ us hl => match us, hl with | [_], _ => rfl
  have H__law_name : Here K mg "_law_name" s__law_name ["script", "source", "used"] := here_of X G a5 l5 c5 k5 fun _ _ _ _ _ _ us hl => match us, hl with | [_, _, _], _ => rfl
  have H_row_of : Here K mg "row_of" s_row_of ["game", "name"] := here_of X G a6 l6 c6 k6 fun _ _ _ _ _ _ us hl => match us, hl with | [_, _], _ => rfl
  have H__law_sets : Here K mg "_law_sets" s__law_sets ["script", "source", "many", "most"] := here_of X G a7 l7 c7 k7 fun _ _ _ _ _ _ us hl => match us, hl with | [_, _, _, _], _ => rfl
  have H__law_tree : Here K mg "_law_tree" s__law_tree ["script", "source", "free", "outcomes", "room", "wish"] := here_of X G a8 l8 c8 k8 fun _ _ _ _ _ _ us hl => match us, hl with | [_, _, _, _, _, _], _ => rfl
  have H__law_row : Here K mg "_law_row" s__law_row ["rows", "name"] := here_of X G a9 l9 c9 k9 fun _ _ _ _ _ _ us hl => match us, hl with | [_, _], _ => rfl
  have H__law_told : Here K mg "_law_told" s__law_told ["answer", "due"] := here_of X G a10 l10 c10 k10 fun _ _ _ _ _ _ us hl => match us, hl with | [_, _], _ => rfl
  have H_is_name : Here K mg "is_name" s_is_name ["word"] := here_of X G a11 l11 c11 k11 fun _ _ _ _ _ _ us hl => match us, hl with | [_], _ => rfl
  have H_is_new_name : Here K mg "is_new_name" s_is_new_name ["game", "name"] := here_of X G a12 l12 c12 k12 fun _ _ _ _ _ _ us hl => match us, hl with | [_, _], _ => rfl
  have H__law_is_name : Here K mg "_law_is_name" s__law_is_name ["word"] := here_of X G a13 l13 c13 k13 fun _ _ _ _ _ _ us hl => match us, hl with | [_], _ => rfl
  have H__law_is_new : Here K mg "_law_is_new" s__law_is_new ["rows", "name"] := here_of X G a14 l14 c14 k14 fun _ _ _ _ _ _ us hl => match us, hl with | [_, _], _ => rfl
  have H__law_game : Here K mg "_law_game" s__law_game ["script", "source", "many", "most", "nodes"] := here_of X G a15 l15 c15 k15 fun _ _ _ _ _ _ us hl => match us, hl with | [_, _, _, _, _], _ => rfl
  have H__law_nodes : Here K mg "_law_nodes" s__law_nodes ["tree", "path", "pairs"] := here_of X G a16 l16 c16 k16 fun _ _ _ _ _ _ us hl => match us, hl with | [_, _, _], _ => rfl
  have H_without_row : Here K mg "without_row" s_without_row ["sets", "name"] := here_of X G a17 l17 c17 k17 fun _ _ _ _ _ _ us hl => match us, hl with | [_, _], _ => rfl
  have H_with_row : Here K mg "with_row" s_with_row ["sets", "row"] := here_of X G a18 l18 c18 k18 fun _ _ _ _ _ _ us hl => match us, hl with | [_, _], _ => rfl
  have H__cut_nodes : Here K mg "_cut_nodes" s__cut_nodes ["node", "upper", "name", "names", "taken"] := here_of X G a19 l19 c19 k19 fun _ _ _ _ _ _ us hl => match us, hl with | [_, _, _, _, _], _ => rfl
  have H_cut_up : Here K mg "cut_up" s_cut_up ["game", "upper", "name", "names"] := here_of X G a20 l20 c20 k20 fun _ _ _ _ _ _ us hl => match us, hl with | [_, _, _, _], _ => rfl
  have H__law_cut : Here K mg "_law_cut" s__law_cut ["tree", "upper", "name", "names", "move"] := here_of X G a21 l21 c21 k21 fun _ _ _ _ _ _ us hl => match us, hl with | [_, _, _, _, _], _ => rfl
  have H__law_cut_step : Here K mg "_law_cut_step" s__law_cut_step ["game", "step"] := here_of X G a22 l22 c22 k22 fun _ _ _ _ _ _ us hl => match us, hl with | [_, _], _ => rfl
  have H__law_names : Here K mg "_law_names" s__law_names ["script", "source", "used", "count"] := here_of X G a23 l23 c23 k23 fun _ _ _ _ _ _ us hl => match us, hl with | [_, _, _, _], _ => rfl
  have H_above : Here K mg "above" s_above ["tree", "path"] := here_of X G a24 l24 c24 k24 fun _ _ _ _ _ _ us hl => match us, hl with | [_, _], _ => rfl
  have H_move_count : Here K mg "move_count" s_move_count ["game", "name"] := here_of X G a25 l25 c25 k25 fun _ _ _ _ _ _ us hl => match us, hl with | [_, _], _ => rfl
  have H_fresh_names : Here K mg "fresh_names" s_fresh_names ["game", "count"] := here_of X G a26 l26 c26 k26 fun _ _ _ _ _ _ us hl => match us, hl with | [_, _], _ => rfl
  have H_sets_in : Here K mg "sets_in" s_sets_in ["tree"] := here_of X G a27 l27 c27 k27 fun _ _ _ _ _ _ us hl => match us, hl with | [_], _ => rfl
  have H_paths_of : Here K mg "paths_of" s_paths_of ["tree", "name"] := here_of X G a28 l28 c28 k28 fun _ _ _ _ _ _ us hl => match us, hl with | [_, _], _ => rfl
  have H_apply_step : Here K mg "apply_step" s_apply_step ["game", "step"] := here_of X G a29 l29 c29 k29 fun _ _ _ _ _ _ us hl => match us, hl with | [_, _], _ => rfl
  have H_step_fits : Here K mg "step_fits" s_step_fits ["game", "step"] := here_of X G a30 l30 c30 k30 fun _ _ _ _ _ _ us hl => match us, hl with | [_, _], _ => rfl
  have H_sure_past : Here K mg "sure_past" s_sure_past ["game", "name"] := here_of X G a31 l31 c31 k31 fun _ _ _ _ _ _ us hl => match us, hl with | [_, _], _ => rfl
  have H_cut_pairs : Here K mg "cut_pairs" s_cut_pairs ["game"] := here_of X G a32 l32 c32 k32 fun _ _ _ _ _ _ us hl => match us, hl with | [_], _ => rfl
  have H__law_sure : Here K mg "_law_sure" s__law_sure ["nodes", "name"] := here_of X G a33 l33 c33 k33 fun _ _ _ _ _ _ us hl => match us, hl with | [_, _], _ => rfl
  have H__law_behind : Here K mg "_law_behind" s__law_behind ["nodes", "name", "upper"] := here_of X G a34 l34 c34 k34 fun _ _ _ _ _ _ us hl => match us, hl with | [_, _, _], _ => rfl
  have H__law_cuts : Here K mg "_law_cuts" s__law_cuts ["game"] := here_of X G a35 l35 c35 k35 fun _ _ _ _ _ _ us hl => match us, hl with | [_], _ => rfl
  have H__law_asked : Here K mg "_law_asked" s__law_asked ["game"] := here_of X G a36 l36 c36 k36 fun _ _ _ _ _ _ us hl => match us, hl with | [_], _ => rfl
  refine ⟨PySem.W.fnOf "law" "law" (defArgs s_law) (defBody s_law) (defScope s_law) .none kV37 dc37 pm37 an37 cd37 ct37, fun s v => .of_eq rfl, fun base _ _ Su => ?_⟩
  have C__law_draw := ok__law_draw (P := P) (w := w) (base := base) H__law_draw T XC Su 
  have C__law_source := ok__law_source (P := P) (w := w) (base := base) H__law_source T XC Su 
  have C__law_gcd := ok__law_gcd (P := P) (w := w) (base := base) H__law_gcd T XC Su 
  have C__law_reduced := ok__law_reduced (P := P) (w := w) (base := base) H__law_reduced T XC Su C__law_gcd
  have C__law_name := ok__law_name (P := P) (w := w) (base := base) H__law_name T XC Su C__law_draw
  have C_row_of := ok_row_of (P := P) (w := w) (base := base) H_row_of T XC Su 
  have C__law_sets := ok__law_sets (P := P) (w := w) (base := base) H__law_sets T XC Su C__law_draw C__law_name C__law_reduced
  have C__law_tree := ok__law_tree (P := P) (w := w) (base := base) H__law_tree T XC Su C__law_draw 20
  have C__law_row := ok__law_row (P := P) (w := w) (base := base) H__law_row T XC Su 
  have C__law_told := ok__law_told (P := P) (w := w) (base := base) H__law_told T XC Su  20
  have C_is_name := ok_is_name (P := P) (w := w) (base := base) H_is_name T XC Su 
  have C_is_new_name := ok_is_new_name (P := P) (w := w) (base := base) H_is_new_name T XC Su C_is_name C_row_of
  have C__law_is_name := ok__law_is_name (P := P) (w := w) (base := base) H__law_is_name T XC Su 
  have C__law_is_new := ok__law_is_new (P := P) (w := w) (base := base) H__law_is_new T XC Su C__law_is_name C__law_row
  have C__law_game := ok__law_game (P := P) (w := w) (base := base) H__law_game T XC Su C__law_draw C__law_name C__law_sets C__law_tree
  have C__law_nodes := ok__law_nodes (P := P) (w := w) (base := base) H__law_nodes T XC Su  9
  have C_without_row := ok_without_row (P := P) (w := w) (base := base) H_without_row T XC Su 
  have C_with_row := ok_with_row (P := P) (w := w) (base := base) H_with_row T XC Su 
  have C__cut_nodes := ok__cut_nodes (P := P) (w := w) (base := base) H__cut_nodes T XC Su  9
  have C_cut_up := ok_cut_up (P := P) (w := w) (base := base) H_cut_up T XC Su C__cut_nodes C_is_new_name C_row_of C_with_row C_without_row
  have C__law_cut := ok__law_cut (P := P) (w := w) (base := base) H__law_cut T XC Su  9
  have C__law_cut_step := ok__law_cut_step (P := P) (w := w) (base := base) H__law_cut_step T XC Su C__law_cut C__law_is_new C__law_nodes C__law_row
  have C__law_names := ok__law_names (P := P) (w := w) (base := base) H__law_names T XC Su C__law_name
  have C_above := ok_above (P := P) (w := w) (base := base) H_above T XC Su 
  have C_move_count := ok_move_count (P := P) (w := w) (base := base) H_move_count T XC Su C_row_of
  have C_fresh_names := ok_fresh_names (P := P) (w := w) (base := base) H_fresh_names T XC Su 
  have C_sets_in := ok_sets_in (P := P) (w := w) (base := base) H_sets_in T XC Su  20
  have C_paths_of := ok_paths_of (P := P) (w := w) (base := base) H_paths_of T XC Su  9
  have C_apply_step := ok_apply_step (P := P) (w := w) (base := base) H_apply_step T XC Su C_cut_up
  have C_step_fits := ok_step_fits (P := P) (w := w) (base := base) H_step_fits T XC Su C_apply_step
  have C_sure_past := ok_sure_past (P := P) (w := w) (base := base) H_sure_past T XC Su C_above C_paths_of
  have C_cut_pairs := ok_cut_pairs (P := P) (w := w) (base := base) H_cut_pairs T XC Su C_fresh_names C_move_count C_sets_in C_step_fits
  have C__law_sure := ok__law_sure (P := P) (w := w) (base := base) H__law_sure T XC Su 
  have C__law_behind := ok__law_behind (P := P) (w := w) (base := base) H__law_behind T XC Su 
  have C__law_cuts := ok__law_cuts (P := P) (w := w) (base := base) H__law_cuts T XC Su C__law_behind C__law_nodes
  have C__law_asked := ok__law_asked (P := P) (w := w) (base := base) H__law_asked T XC Su C__law_cuts C__law_nodes C__law_sure C__law_told C_cut_pairs C_sure_past
  exact ok_law (fun_mk (st := s_law) l37 c37 k37) T XC Su C__law_asked C__law_cut_step C__law_cuts C__law_draw C__law_game C__law_names C__law_nodes C__law_row C__law_source C__law_told C_cut_up C_sure_past
end PL
open PySem PySem.W PyProof.Rows
set_option maxHeartbeats 0 in
theorem PySem.Challenge.cw_toldotherwise_k60_sure_pasts_holds : PySem.Challenge.rw_toldotherwise_k60_sure_pasts.Holds := by
  w_on; o_law; k_head; (case hw => w_witness2)
  k_fill
  refine PL.walkP (l := PySem.Challenge.rw_toldotherwise_k60_sure_pasts) (k := 57) (x := "script") rfl rfl ⟨rfl, by decide, by decide⟩ rfl rfl (fun w h Y => PySem.W.kIn_of Y) ?F
  case F =>
    intro w mg fa h KX G hmg
    refine' PL.all_mk KX G hmg ?xa_GameError ?xa_BadPath ?xa_BadStep ?xq_BadStep ?xk_BadStep ?xs_BadStep ?xt_BadStep ?xh_BadStep ?xg_BadStep ?xG_BadStep ?xA_BadStep ?xN_BadStep ?xT_BadStep ?xM_BadStep ?xm_BadStep ?xi_BadStep_GameError ?xi_BadStep_ValueError ?xi_BadStep_BadGame ?xi_BadStep_BadPath ?a1 ?l1 ?c1 ?k1 ?a2 ?l2 ?c2 ?k2 ?a3 ?l3 ?c3 ?k3 ?a4 ?l4 ?c4 ?k4 ?a5 ?l5 ?c5 ?k5 ?a6 ?l6 ?c6 ?k6 ?a7 ?l7 ?c7 ?k7 ?a8 ?l8 ?c8 ?k8 ?a9 ?l9 ?c9 ?k9 ?a10 ?l10 ?c10 ?k10 ?a11 ?l11 ?c11 ?k11 ?a12 ?l12 ?c12 ?k12 ?a13 ?l13 ?c13 ?k13 ?a14 ?l14 ?c14 ?k14 ?a15 ?l15 ?c15 ?k15 ?a16 ?l16 ?c16 ?k16 ?a17 ?l17 ?c17 ?k17 ?a18 ?l18 ?c18 ?k18 ?a19 ?l19 ?c19 ?k19 ?a20 ?l20 ?c20 ?k20 ?a21 ?l21 ?c21 ?k21 ?a22 ?l22 ?c22 ?k22 ?a23 ?l23 ?c23 ?k23 ?a24 ?l24 ?c24 ?k24 ?a25 ?l25 ?c25 ?k25 ?a26 ?l26 ?c26 ?k26 ?a27 ?l27 ?c27 ?k27 ?a28 ?l28 ?c28 ?k28 ?a29 ?l29 ?c29 ?k29 ?a30 ?l30 ?c30 ?k30 ?a31 ?l31 ?c31 ?k31 ?a32 ?l32 ?c32 ?k32 ?a33 ?l33 ?c33 ?k33 ?a34 ?l34 ?c34 ?k34 ?a35 ?l35 ?c35 ?k35 ?a36 ?l36 ?c36 ?k36 ?a37 ?l37 ?c37 ?k37 ?z_abs ?z_bool ?z_dict ?z_enumerate ?z_int ?z_isinstance ?z_len ?z_list ?z_range ?z_sorted ?z_str ?z_sum ?z_tuple ?y_gcd ?x_DIGITS ?x_LETTERS ?x_LONGEST_NAME ?x_MOST_MOVES
    (case xa_GameError => k_is); (case xa_BadPath => k_is); (case xa_BadStep => k_is); (case xk_BadStep => k_is); (case xs_BadStep => k_is); (case xt_BadStep => k_is); (case xh_BadStep => k_is); (case xg_BadStep => k_is); (case xG_BadStep => k_is); (case xA_BadStep => k_is); (case xN_BadStep => k_is); (case xT_BadStep => k_is); (case xM_BadStep => k_is); (case xm_BadStep => k_is); (case a1 => k_is); (case l1 => k_is); (case c1 => k_is); (case k1 => k_is); (case a2 => k_is); (case l2 => k_is); (case c2 => k_is); (case k2 => k_is); (case a3 => k_is); (case l3 => k_is); (case c3 => k_is); (case k3 => k_is); (case a4 => k_is); (case l4 => k_is); (case c4 => k_is); (case k4 => k_is); (case a5 => k_is); (case l5 => k_is); (case c5 => k_is); (case k5 => k_is); (case a6 => k_is); (case l6 => k_is); (case c6 => k_is); (case k6 => k_is); (case a7 => k_is); (case l7 => k_is); (case c7 => k_is); (case k7 => k_is); (case a8 => k_is); (case l8 => k_is); (case c8 => k_is); (case k8 => k_is); (case a9 => k_is); (case l9 => k_is); (case c9 => k_is); (case k9 => k_is); (case a10 => k_is); (case l10 => k_is); (case c10 => k_is); (case k10 => k_is); (case a11 => k_is); (case l11 => k_is); (case c11 => k_is); (case k11 => k_is); (case a12 => k_is); (case l12 => k_is); (case c12 => k_is); (case k12 => k_is); (case a13 => k_is); (case l13 => k_is); (case c13 => k_is); (case k13 => k_is); (case a14 => k_is); (case l14 => k_is); (case c14 => k_is); (case k14 => k_is); (case a15 => k_is); (case l15 => k_is); (case c15 => k_is); (case k15 => k_is); (case a16 => k_is); (case l16 => k_is); (case c16 => k_is); (case k16 => k_is); (case a17 => k_is); (case l17 => k_is); (case c17 => k_is); (case k17 => k_is); (case a18 => k_is); (case l18 => k_is); (case c18 => k_is); (case k18 => k_is); (case a19 => k_is); (case l19 => k_is); (case c19 => k_is); (case k19 => k_is); (case a20 => k_is); (case l20 => k_is); (case c20 => k_is); (case k20 => k_is); (case a21 => k_is); (case l21 => k_is); (case c21 => k_is); (case k21 => k_is); (case a22 => k_is); (case l22 => k_is); (case c22 => k_is); (case k22 => k_is); (case a23 => k_is); (case l23 => k_is); (case c23 => k_is); (case k23 => k_is); (case a24 => k_is); (case l24 => k_is); (case c24 => k_is); (case k24 => k_is); (case a25 => k_is); (case l25 => k_is); (case c25 => k_is); (case k25 => k_is); (case a26 => k_is); (case l26 => k_is); (case c26 => k_is); (case k26 => k_is); (case a27 => k_is); (case l27 => k_is); (case c27 => k_is); (case k27 => k_is); (case a28 => k_is); (case l28 => k_is); (case c28 => k_is); (case k28 => k_is); (case a29 => k_is); (case l29 => k_is); (case c29 => k_is); (case k29 => k_is); (case a30 => k_is); (case l30 => k_is); (case c30 => k_is); (case k30 => k_is); (case a31 => k_is); (case l31 => k_is); (case c31 => k_is); (case k31 => k_is); (case a32 => k_is); (case l32 => k_is); (case c32 => k_is); (case k32 => k_is); (case a33 => k_is); (case l33 => k_is); (case c33 => k_is); (case k33 => k_is); (case a34 => k_is); (case l34 => k_is); (case c34 => k_is); (case k34 => k_is); (case a35 => k_is); (case l35 => k_is); (case c35 => k_is); (case k35 => k_is); (case a36 => k_is); (case l36 => k_is); (case c36 => k_is); (case k36 => k_is); (case a37 => k_is); (case l37 => k_is); (case c37 => k_is); (case k37 => k_is); (case z_abs => k_is); (case z_bool => k_is); (case z_dict => k_is); (case z_enumerate => k_is); (case z_int => k_is); (case z_isinstance => k_is); (case z_len => k_is); (case z_list => k_is); (case z_range => k_is); (case z_sorted => k_is); (case z_str => k_is); (case z_sum => k_is); (case z_tuple => k_is); (case y_gcd => k_is); (case x_DIGITS => k_is); (case x_LETTERS => k_is); (case x_LONGEST_NAME => k_is); (case x_MOST_MOVES => k_is); (case xq_BadStep => k_exc); (case xi_BadStep_GameError => kit_is); (case xi_BadStep_ValueError => kit_is); (case xi_BadStep_BadGame => kit_is); (case xi_BadStep_BadPath => kit_is)
