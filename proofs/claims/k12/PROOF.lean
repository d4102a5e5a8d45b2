import PyProof.Rows.All
import Wide.All
import OpenK.AllK
import Wide.FinOn
import HandS.ForMost
import HandS.Gcd
import HandS.Wide
import HandS.WideMore
import HandS.IsInst
import HandS.TupAny
import HandS.TupMul
import HandS.TupLe
import HandS.Conv
import HandS.Flow
import KE.KIndexOf
import HandS.Strs
import KE.KDictKeyed
import HandS.Text
import KE.DataEq
import HandS.Walk
import KE.KTupSum
import HandS.EndBits
import PyProof.Rows.SortShellAny
import KE.SortData
import KE.KDictZip
import HandS.Zip
import HandS.Property
import HandS.Star
import HandS.Style
import HandS.ExcIs
import HandS.RaiseFrom
import HandS.SuiteRaise
import HandS.WordsExc
import HandS.RaiseMore
import KE.GoesEnum
import HandS.TryOnly
import PyProof.Rows.MatchSeqLen
import KE.KDictCopyH
import HandS.SetKeys
import KE.DataCmp
import HandS.TupSets
import PySem.Challenge.RW_toldotherwise_k12_least_of_all_arrangeme
set_option Elab.async false
set_option linter.all false
set_option maxRecDepth 100000
set_option maxHeartbeats 2000000
/-! PL0: tuples laid with their object known (no dict of their own): the makers again, and the methods of a tuple. -/
namespace PL
open PySem PySem.Spec L2 PyProof.Rows

/-- a tuple whose object has no dict -/
def SqX (K : PySem.W.Frag) (H : Hp) (a : Addr) (vs : List V) : Prop :=
  (∃ ob, H a = some (.frz ob (.tup vs)) ∧ ob.dict = none) ∨
    ∃ (ob : Obj) (arr : Array Value) (c : Nat), K.lookup a = some ob ∧ ob.cls = .type "tuple" ∧ ob.dict = none ∧ ob.data = .seq arr c ∧ arr.size ≤ sizeLine ∧ Vals vs arr.toList
theorem SqX.t {K : PySem.W.Frag} {H : Hp} {a : Addr} {vs : List V} (h : SqX K H a vs) : SqT K H a vs := by
  rcases h with ⟨ob, e, _⟩ | ⟨ob, arr, c, e1, e2, _, e3⟩
  · exact .inl (.inr ⟨ob, e⟩)
  · exact .inr ⟨ob, arr, c, e1, e2, e3⟩
/-- the wish at a new tuple -/
abbrev NewT (H : Hp) (vs : List V) (Q : VK) : Prop := ∀ (p : Addr) (ob : Obj), H p = none → ob.dict = none → Q (.ref p) (upd H p (.frz ob (.tup vs)))
section
variable {X : Cx} {pins : List (Addr × Obj)} {σ : L2.St} {H : Hp} {s : Shared} {Q : VK}
theorem SqX.bare {a : Addr} {vs : List V} (I : Inv X pins σ H s) (h : SqX X.K H a vs) : s.TypeIs (.ref a) "tuple" ∧ ∀ b, Value.ref a = .ref b → ∃ ob, s.heap.get? b = some ob ∧ ob.dict = none := by
  refine ⟨?_, fun b eb => ?_⟩
  · obtain ⟨_, _, tup, _⟩ := I.tuple h.t
    exact tup.typeIs
  · cases eb
    rcases h with ⟨ob, e, hd⟩ | ⟨ob, _, _, e, _, hd, _⟩
    · exact ⟨ob, (I.hok a _ e).1, hd⟩
    · exact ⟨ob, I.kIn a ob e, hd⟩
theorem laid_tup {vs : List V} {us : List Value} (I : Inv X pins σ H s) (r : Vals vs us) (few : vs.length ≤ sizeLine) (q : NewT H vs Q) :
    EP X pins σ Q (.ref s.heap.objs.size) { s with heap := s.heap.push { cls := .type "tuple", data := .seq us.toArray } } :=
  have there := Heap.get?_push_size s.heap (o := { cls := .type "tuple", data := .seq us.toArray }) rfl
  ⟨.ref s.heap.objs.size, _, I.laid (t' := s.toks) (o := .frz { cls := .type "tuple", data := .seq us.toArray } (.tup vs)) (fun _ _ kept => Heap.get?_push_of_some _ kept) (Nat.le_refl _)
    ⟨there, few, us, r, IsTup.new _ _⟩, rfl, q _ _ (I.hok.fresh (Nat.le_refl _)) rfl⟩
end
section
variable {X : Cx} {es : List Expr} {e : Expr} {t : TA} {te : TE} {pos : Pos}
def xTup (t : TA) : TE := fun σ H Q => t σ H fun vs H1 => vs.length ≤ sizeLine ∧ NewT H1 vs Q
theorem pe_tupX {ctx} (h : PA X es t) : PE X (.Tuple es ctx pos) (xTup t) := by
  refine ⟨fun pins s σ H Q I want => ?_⟩
  refine wpAny_Tuple_spliced (thn (h.run pos pins s σ H _ I want) fun us s1 ⟨vs, H1, I1, rv, few, q⟩ => ?_)
  exact ⟨by rw [← rv.length]; exact few, laid_tup I1 rv few q⟩
theorem call_tupX : CallR X (.type "tuple") (fun as H Q => ∃ a vs, as = [.ref a] ∧ ((SqL X.K H a vs ∧ NewT H vs Q) ∨ (SqX X.K H a vs ∧ Q (.ref a) H))) := by
  intro pins s σ H as us Q I r want
  obtain ⟨a, vs, ea, want⟩ := want
  subst ea
  obtain ⟨u, eu, ru⟩ := vals1 r
  subst eu
  cases ru
  rcases want with ⟨there, q⟩ | ⟨there, q⟩
  · obtain ⟨its, rv, plain, few⟩ := I.list there
    have len := rv.length
    refine call_tuple_list plain.isList (fun h1 kp => ?_) (by simp only [List.size_toArray] <;> omega)
    exact laid_tup (I.kept (t' := s.toks) kp) rv few q
  · obtain ⟨its, rv, tup, few⟩ := I.tuple there.t
    exact call_tuple_same tup ⟨.ref a, H, I, rfl, q⟩
def xCat (K : PySem.W.Frag) : R2 := fun x y H Q => ∃ a b vs ws, x = .ref a ∧ y = .ref b ∧ SqX K H a vs ∧ SqX K H b ws ∧ vs.length + ws.length ≤ sizeLine ∧
  (vs = [] → Q (.ref b) H) ∧ (vs ≠ [] → ws = [] → Q (.ref a) H) ∧ (vs ≠ [] → ws ≠ [] → NewT H (vs ++ ws) Q)
theorem op_catX : OpR X (binaryOp .Add) (xCat X.K) := by
  intro pins s σ H x y v u Q I rx ry want
  obtain ⟨a, b, vs, ws, ex, ey, ha, hb, few, q0, q1, q2⟩ := want
  subst ex; subst ey
  cases rx
  cases ry
  obtain ⟨its, r1, p1, _⟩ := I.tuple ha.t
  obtain ⟨jts, r2, p2, _⟩ := I.tuple hb.t
  by_cases hv : vs = []
  · subst hv
    cases r1
    exact cat_tup0 p1 p2 ⟨.ref b, H, I, rfl, (q0 rfl : _)⟩
  · refine HT.cat_tup p1 p2 (fun z => hv (r1.nil_iff.mp z)) (fun z => ⟨.ref a, H, I, rfl, q1 hv (r2.nil_iff.mp z)⟩) (fun z => ?_) (by rw [← r1.length, ← r2.length]; exact few)
    exact laid_tup I (r1.append r2) (by rw [List.length_append]; exact few) (q2 hv fun w => z (r2.nil_iff.mpr w))
def xSl (K : PySem.W.Frag) : V → Option Int → Option Int → Hp → VK → Prop := fun x lo hi H Q => ∃ a vs, x = .ref a ∧ SqX K H a vs ∧
  (HT.sIx vs.length 0 lo = 0 ∧ HT.sIx vs.length vs.length hi = vs.length → Q (.ref a) H) ∧ (¬ (HT.sIx vs.length 0 lo = 0 ∧ HT.sIx vs.length vs.length hi = vs.length) → NewT H (cutV vs lo hi) Q)
theorem sl_tupX : SlR X (xSl X.K) := by
  intro pins s σ H x v vl vu lo hi sl Q I rx hs pl pu want
  obtain ⟨a, vs, ex, there, q1, q2⟩ := want
  subst ex
  cases rx
  obtain ⟨its, rv, tup, few⟩ := I.tuple there.t
  have len : its.toArray.size = vs.length := by rw [List.size_toArray]; exact rv.length.symm
  refine ⟨"tuple", _, PyProof.Rows.slot_tuple_getitem.lookup, tup.typeIs, ?_⟩
  by_cases whole : HT.sIx vs.length 0 lo = 0 ∧ HT.sIx vs.length vs.length hi = vs.length
  · exact getItem_tuple_whole tup hs pl pu (by rw [len]; exact whole) ⟨.ref a, H, I, rfl, q1 whole⟩
  · refine HT.getItem_tuple_cut tup hs pl pu (by rw [len]; exact whole) ?_ (by rw [len]; exact few)
    rw [len]
    exact laid_tup I ((rv.drop _).take _) (Nat.le_trans (cutV_length vs lo hi) few) (q2 whole)
def xTupRg (te : L2.St → Hp → (Int → Int → Hp → Prop) → Prop) : TE := fun σ H Q => te σ H fun a b H1 => RgOk a b ∧ NewT H1 (rgV a b) Q
theorem pe_tupRgX {p : Pos} (hc : X.calm = true) (hg : Gl X "tuple") (hm : X.mg "tuple" = none) {te : L2.St → Hp → (Int → Int → Hp → Prop) → Prop} (he : PRg X e te) (na : starEach [e] X.env = (false, eval e X.env) :: starEach [] X.env := by rfl) : PE X (.Call (.Name "tuple" p) [e] [] pos) (xTupRg te) := by
  refine ⟨fun pins s σ H Q I want => ?_⟩
  refine Call_ (ld_blt I hg hm boot_tuple (PyProof.Rows.callWith_type1 (args_cons (thn (he pins s σ H _ I want) fun x s1 ⟨rg, a, b, t1, t2, t3, H1, ex, isr, I1, ok, q⟩ => args_nil ?_) na) na))
  subst ex
  obtain ⟨lo1, lo2, hi1, hi2, many⟩ := ok
  refine call_tuple_range (n := (b - a).toNat) (I1.ok.hd hc) isr (small_one lo1 lo2 hi1 hi2) (rangeSize_nat a b) many fun h1 tk acc kept items => ?_
  have I2 : Inv X pins σ H1 { s1 with heap := h1, toks := tk } := I1.kept kept
  have fin := laid_tup (Q := Q) I2 (vals_rg items) (by rw [rgV_length, sizeLine_eq]; omega) q
  rw [Array.toArray_toList] at fin
  exact fin
def xRep (K : PySem.W.Frag) : R2 := fun x y H Q => ∃ a m vs, x = .ref a ∧ y = .int m ∧ SqX K H a vs ∧ vs ≠ [] ∧ 2 ≤ m ∧ m ≤ 1000 ∧ vs.length ≤ 1000 ∧ NewT H (List.replicate m.toNat vs).flatten Q
theorem op_repX : OpR X (binaryOp .Mult) (xRep X.K) := by
  intro pins s σ H x y v u Q I rx ry want
  obtain ⟨a, m, vs, ex, ey, there, some1, two, thou, few, q⟩ := want
  subst ex; subst ey
  cases rx
  obtain ⟨tk, eu⟩ := ry
  subst eu
  obtain ⟨its, rv, ⟨⟨cls, dd, data, sl⟩, at_a, hc, c, hd⟩, _⟩ := I.tuple there.t
  simp only at hc hd
  subst hc hd
  have len : its.length = vs.length := rv.length.symm
  have ne : its ≠ [] := fun z => some1 (rv.nil_iff.mp z)
  have full : its.toArray.isEmpty = false := by
    cases its with
    | nil => exact absurd rfl ne
    | cons _ _ => rfl
  have size : its.toArray.size = vs.length := by rw [List.size_toArray, len]
  have mill : ((its.toArray.size : Nat) : Int) * m ≤ 1000000 := by
    rw [size]
    have := Int.mul_le_mul_of_nonneg_right (show ((vs.length : Nat) : Int) ≤ 1000 by omega) (show 0 ≤ m by omega)
    omega
  have flat : (List.replicate m.toNat its).flatten.length ≤ sizeLine := by
    rw [PyProof.Rows.lm_len_rep_flat, len, sizeLine_eq]
    have := Nat.mul_le_mul (show m.toNat ≤ 1000 by omega) few
    omega
  have d0 : (decide (m < -(2 ^ 63)) || decide (m ≥ 2 ^ 63)) = false := by
    rw [Bool.or_eq_false_iff]; exact ⟨decide_eq_false (by omega), decide_eq_false (by omega)⟩
  have d1 : (its.toArray.isEmpty || m == 1) = false := by
    rw [full, Bool.false_or]; exact beq_eq_false_iff_ne.mpr (by omega)
  have d2 : (decide (m ≤ 0) || its.toArray.isEmpty) = false := by
    rw [full, Bool.or_false]; exact decide_eq_false (by omega)
  have d4 : Builtin.Tuple.tupleTooMany (((its.toArray.size : Nat) : Int) * m) = false := by
    unfold Builtin.Tuple.tupleTooMany; rw [sizeLine_eq]; exact decide_eq_false (by omega)
  have inner := tuple_mulW a its.toArray c dd sl m tk d0 d1 d2 (by omega) d4 (by rw [size_rep, List.size_toArray]; exact flat)
  have isT : s.TypeIs (.ref a) "tuple" := ⟨_, at_a, rfl⟩
  have run := call_meets (A := X.A) (prog := X.prog) (w := X.w) (E := X.xe) (s := s) F.slot_tuple_mul isT F.entry_tuple_mul (F.args_tuple_mul_2 _ _) inner
    (Q := EP X pins σ Q) ⟨at_a, by
      rw [size_rep]
      refine laid_tup I (rv.rep m.toNat) ?_ q
      rw [(rv.rep m.toNat).length]; exact flat⟩
  exact wpAny_binaryOp_repeat_ref (T := "tuple") (U := "int") (by decide) ⟨_, at_a, rfl⟩ (fun s' => typeIs_int s' m tk) noFill_tuple_mul F.fills_int_mul F.slot_int_rmul repeat_tuple F.slot_int_index.lookup
    (call_meets F.slot_int_rmul (typeIs_int s m tk) F.entry_int_rmul (F.args_int_rmul_2 _ _) (int_rmul_tuple m tk a its.toArray c dd sl) ⟨at_a, rfl, ⟨_, at_a, rfl⟩, run⟩)
end
namespace PLr
theorem tuple_mul_one (l : Addr) (items : Array Value) (n : Nat) (dd : Option Addr) (sl : Array (Option Value)) (u : Tok) :
    Meets (Builtin.«tuple.__mul__» ⟨[.ref l, .int 1 u], []⟩) (fun _ R s => s.heap.get? l = some { cls := .type "tuple", dict := dd, data := .seq items n, slots := sl } ∧ R (.ok (.ret (.ref l))) s) :=
  .of_wp fun _ _ _ _ st ⟨hl, fin⟩ => by
    obtain ⟨hp, gens, drawn, tk, os⟩ := st
    have ix := AutoSeq1.idx_int; wp_walk using wpAny_loadPart' hl
    repeat (first
      | (refine wpAny_ite_false (decide_eq_false (by decide)) ?_; wp_walk using wpAny_loadPart' hl)
      | (refine wpAny_ite_true (by simp) ?_; wp_walk using wpAny_loadPart' hl))
    exact ⟨_, rfl, fin⟩
end PLr
section
variable {X : Cx}
/-- t * 1 is t -/
def xRep1 (K : PySem.W.Frag) : R2 := fun x y H Q => ∃ a vs, x = .ref a ∧ y = .int 1 ∧ SqX K H a vs ∧ Q (.ref a) H
theorem op_rep1 : OpR X (binaryOp .Mult) (xRep1 X.K) := by
  intro pins s σ H x y v u Q I rx ry want
  obtain ⟨a, vs, ex, ey, there, q⟩ := want
  subst ex; subst ey
  cases rx
  obtain ⟨tk, eu⟩ := ry
  subst eu
  obtain ⟨its, rv, ⟨⟨cls, dd, data, sl⟩, at_a, hc, c, hd⟩, _⟩ := I.tuple there.t
  simp only at hc hd
  subst hc hd
  have isT : s.TypeIs (.ref a) "tuple" := ⟨_, at_a, rfl⟩
  have run := call_meets (A := X.A) (prog := X.prog) (w := X.w) (E := X.xe) (s := s) F.slot_tuple_mul isT F.entry_tuple_mul (F.args_tuple_mul_2 _ _) (PLr.tuple_mul_one a its.toArray c dd sl tk)
    (Q := EP X pins σ Q) ⟨at_a, .ref a, H, I, rfl, q⟩
  exact wpAny_binaryOp_repeat_ref (T := "tuple") (U := "int") (by decide) ⟨_, at_a, rfl⟩ (fun s' => typeIs_int s' 1 tk) noFill_tuple_mul F.fills_int_mul F.slot_int_rmul repeat_tuple F.slot_int_index.lookup
    (call_meets F.slot_int_rmul (typeIs_int s 1 tk) F.entry_int_rmul (F.args_int_rmul_2 _ _) (int_rmul_tuple 1 tk a its.toArray c dd sl) ⟨at_a, rfl, ⟨_, at_a, rfl⟩, run⟩)
end
/-! a tuple's methods -/
section
variable {X : Cx} {o e : Expr} {es : List Expr} {to : TE} {t : TA} {name : Str} {apos cpos : Pos} {id : String} {r : V → List V → Hp → VK → Prop}
def xBM (K : PySem.W.Frag) (r : V → List V → Hp → VK → Prop) (to : TE) (t : TA) : TE := fun σ H Q => to σ H fun x H1 => (∃ a vs, x = .ref a ∧ SqX K H1 a vs) ∧ t σ H1 fun as H2 => r x as H2 Q
theorem pe_bmX (slot : Slot "tuple" name id) (hty : typeOf (.builtin id) = pure (.type "method_descriptor")) (hm : MtR X id r) (ho : PE X o to) (ha : PA X (e :: es) t)
    (base0 : attributeBase o name X.env (eval o X.env) = eval o X.env := by rfl)
    (few0 : (((backTo cpos (starEach (e :: es) X.env)).all (fun x => !x.1) && (backToKw cpos (keywordEach [] X.env)).all (fun x => x.1.isSome)) && decide ((e :: es).length + ([] : List Keyword).length + (if ([] : List Keyword).isEmpty then 0 else 1) < 30)) = true := by rfl)
    (line0 : (apos.endLine == cpos.line) = true := by rfl) (star0 : starEach (e :: es) X.env = (false, eval e X.env) :: starEach es X.env := by rfl) (plain0 : (backTo cpos (starEach es X.env)).any (·.1) = false := by rfl) :
    PE X (.Call (.Attribute o name apos) (e :: es) [] cpos) (xBM X.K r to t) := by
  refine ⟨fun pins s σ H Q I want => ?_⟩
  refine wpAny_Call_method_late base0 few0 line0 rfl (thn (ho.run pins s σ H _ I want) fun v s1 ⟨x, H1, I1, r1, ⟨a, vs, ex, there⟩, q1⟩ => ?_)
  subst ex
  cases r1
  obtain ⟨isT, bare⟩ := there.bare I1
  refine ⟨"tuple", id, PySem.F.plainAttrs_tuple, slot, hty, isT, bare, ?_⟩
  have args := ha.run cpos pins s1 σ H1 _ I1 q1
  rw [star0] at args ⊢
  refine Calls.callWith_builtin (by show (false || (backTo cpos (starEach es X.env)).any (·.1)) = false; rw [plain0]; rfl) (Calls.evalArgs_plain ?_)
  exact thn args fun us s2 ⟨as, H2, I2, r2, q2⟩ => hm pins s2 σ H2 (.ref a) as _ us Q I2 rfl r2 q2
end
/-- t.index(x): of ints, of texts -/
def rIdxT (K : PySem.W.Frag) : V → List V → Hp → VK → Prop := fun x as H Q => ∃ a, x = .ref a ∧
  ((∃ (ns : List Int) (k : Int), as = [.int k] ∧ SqT K H a (ns.map V.int) ∧ k ∈ ns ∧ Q (.int (ns.idxOf k : Nat)) H) ∨
   (∃ (ns : List Str) (k : Str), as = [.str k] ∧ SqT K H a (ns.map V.str) ∧ k ∈ ns ∧ Q (.int (ns.idxOf k : Nat)) H))
theorem mt_idxT {X : Cx} : MtR X "tuple.index" (rIdxT X.K) := by
  intro pins s σ H x as v us Q I rx ra want
  obtain ⟨a, ex, want⟩ := want
  subst ex
  cases rx
  rcases want with ⟨ns, k, ea, there, hk, q⟩ | ⟨ns, k, ea, there, hk, q⟩
  · subst ea
    obtain ⟨u, eu, t, eu2⟩ := vals1 ra
    subst eu; subst eu2
    obtain ⟨its, rv, tup, _⟩ := I.tuple there
    exact PySem.SeqAt.tuple_index_ints tup (intsAre_of rv) hk ⟨.int _, H, I.tok _, ⟨_, rfl⟩, q⟩
  · subst ea
    obtain ⟨u, eu, t, eu2⟩ := vals1 ra
    subst eu; subst eu2
    obtain ⟨its, rv, tup, _⟩ := I.tuple there
    exact PySem.SeqAt.tuple_index_strs tup (strsAre_of rv) hk ⟨.int _, H, I.tok _, ⟨_, rfl⟩, q⟩
end PL

set_option Elab.async false
set_option linter.all false
set_option maxRecDepth 100000
set_option maxHeartbeats 2000000
/-! PL1: a data layer over the hand layer: tuples are plain values, lists and dicts stand at addresses, what is not needed may be dropped. -/
namespace PL
open PySem L2

abbrev Kf := PySem.W.Frag
inductive PV where
  | non | bl (b : Bool) | int (i : Int) | str (x : Str) | tup (l : List PV) | ref (a : Addr) | ty (n : String)

mutual
inductive Rep (K : Kf) (H : Hp) : PV → V → Prop
  | non : Rep K H .non .non
  | bl (b) : Rep K H (.bl b) (.bl b)
  | int (i) : Rep K H (.int i) (.int i)
  | str (x) : Rep K H (.str x) (.str x)
  | ref (a) : Rep K H (.ref a) (.ref a)
  | ty (n) : Rep K H (.ty n) (.ty n)
  | tup {l a vs} : SqX K H a vs → Reps K H l vs → Rep K H (.tup l) (.ref a)
inductive Reps (K : Kf) (H : Hp) : List PV → List V → Prop
  | nil : Reps K H [] []
  | cons {p v ps vs} : Rep K H p v → Reps K H ps vs → Reps K H (p :: ps) (v :: vs)
end

def Tk (K : Kf) (H H' : Hp) : Prop := ∀ a xs, SqX K H a xs → SqX K H' a xs
theorem Tk.refl (K : Kf) (H : Hp) : Tk K H H := fun _ _ h => h
theorem Tk.trans {K : Kf} {H H1 H2 : Hp} (a : Tk K H H1) (b : Tk K H1 H2) : Tk K H H2 := fun x xs h => b x xs (a x xs h)
theorem Tk.upd {K : Kf} {H : Hp} {p : Addr} {o : HO} (h : ∀ xs, ¬ Rd H p (.tup xs)) : Tk K H (upd H p o) := fun a xs e => by
  rcases e with ⟨ob, e, d⟩ | e
  · have ne : a ≠ p := fun q => h xs (q ▸ .inr ⟨ob, e⟩)
    exact .inl ⟨ob, by rw [upd_ne ne]; exact e, d⟩
  · exact .inr e
theorem Tk.new {K : Kf} {H : Hp} {p : Addr} {o : HO} (h : H p = none) : Tk K H (L2.upd H p o) := .upd fun xs e => by
  rcases e with e | ⟨u, e⟩ <;> rw [h] at e <;> cases e

mutual
theorem Rep.mono {K : Kf} {H H' : Hp} (t : Tk K H H') : ∀ {p v}, Rep K H p v → Rep K H' p v
  | _, _, .non => .non
  | _, _, .bl b => .bl b
  | _, _, .int b => .int b
  | _, _, .str b => .str b
  | _, _, .ref b => .ref b
  | _, _, .ty b => .ty b
  | _, _, .tup h r => .tup (t _ _ h) (Reps.mono t r)
theorem Reps.mono {K : Kf} {H H' : Hp} (t : Tk K H H') : ∀ {p v}, Reps K H p v → Reps K H' p v
  | _, _, .nil => .nil
  | _, _, .cons h r => .cons (Rep.mono t h) (Reps.mono t r)
end

section
variable {K : Kf} {H : Hp}
theorem Reps.length : ∀ {ps vs}, Reps K H ps vs → ps.length = vs.length
  | _, _, .nil => rfl
  | _, _, .cons _ t => congrArg (· + 1) (Reps.length t)
theorem Reps.get : ∀ {ps vs} {i : Nat} {p}, Reps K H ps vs → ps[i]? = some p → ∃ v, vs[i]? = some v ∧ Rep K H p v
  | _, _, _, _, .nil, e => by simp at e
  | _, _, 0, _, .cons r _, e => by simp at e; subst e; exact ⟨_, rfl, r⟩
  | _, _, i + 1, p, .cons _ t, e => by
    obtain ⟨u, h1, h2⟩ := Reps.get (i := i) (p := p) t (by simpa using e)
    exact ⟨u, by simpa using h1, h2⟩
theorem Reps.append : ∀ {ps vs qs ws}, Reps K H ps vs → Reps K H qs ws → Reps K H (ps ++ qs) (vs ++ ws)
  | _, _, _, _, .nil, s => s
  | _, _, _, _, .cons r t, s => .cons r (Reps.append t s)
theorem Reps.set {p v} (r : Rep K H p v) : ∀ {ps vs} (i : Nat), Reps K H ps vs → Reps K H (ps.set i p) (vs.set i v)
  | _, _, _, .nil => .nil
  | _, _, 0, .cons _ t => .cons r t
  | _, _, i + 1, .cons q t => .cons q (Reps.set r i t)
theorem Reps.take : ∀ {ps vs} (n : Nat), Reps K H ps vs → Reps K H (ps.take n) (vs.take n)
  | _, _, 0, _ => .nil
  | _, _, _ + 1, .nil => .nil
  | _, _, n + 1, .cons r t => .cons r (Reps.take n t)
theorem Reps.drop : ∀ {ps vs} (n : Nat), Reps K H ps vs → Reps K H (ps.drop n) (vs.drop n)
  | _, _, 0, r => r
  | _, _, _ + 1, .nil => .nil
  | _, _, n + 1, .cons _ t => Reps.drop n t
theorem Reps.ints : ∀ {ns : List Int} {vs}, Reps K H (ns.map PV.int) vs → vs = ns.map V.int
  | [], _, .nil => rfl
  | _ :: _, _, .cons (.int _) t => by rw [Reps.ints t]; rfl
theorem Reps.of_ints : ∀ {ns : List Int}, Reps K H (ns.map PV.int) (ns.map V.int)
  | [] => .nil
  | _ :: _ => .cons (.int _) Reps.of_ints
theorem Reps.strs : ∀ {ns : List Str} {vs}, Reps K H (ns.map PV.str) vs → vs = ns.map V.str
  | [], _, .nil => rfl
  | _ :: _, _, .cons (.str _) t => by rw [Reps.strs t]; rfl
theorem Reps.of_strs : ∀ {ns : List Str}, Reps K H (ns.map PV.str) (ns.map V.str)
  | [] => .nil
  | _ :: _ => .cons (.str _) Reps.of_strs
theorem Reps.snoc {ps vs p v} (h : Reps K H ps vs) (r : Rep K H p v) : Reps K H (ps ++ [p]) (vs ++ [v]) := h.append (.cons r .nil)
theorem Reps.nil_iff {ps vs} (h : Reps K H ps vs) : ps = [] ↔ vs = [] := by
  cases h with
  | nil => simp
  | cons a b => simp
end

/-! ### what stands at an address -/
inductive MO where
  | lst (l : List PV)
  | ro (l : List PV)
  | dK (kvs : List (Key × PV))
  | xd (fs : List (Str × PV))
  | rK (o : Obj) (vs : List (Key × V)) (kvs : List (Key × PV))
  | ins (C dx : Addr) (fs : List (Str × PV))
  /-- a dict whose keys are tuples of numbers and texts, nested -/
  | dN (w : World) (kvs : List (PV × PV))
abbrev PHp := Addr → Option MO
def updM (M : PHp) (a : Addr) (o : MO) : PHp := fun b => if b = a then some o else M b
theorem updM_same {M : PHp} {a : Addr} {o : MO} : updM M a o a = some o := by unfold updM; rw [if_pos rfl]
theorem updM_ne {M : PHp} {a b : Addr} {o : MO} (h : b ≠ a) : updM M a o b = M b := by unfold updM; rw [if_neg h]
theorem updM_updM {M : PHp} {a : Addr} {o u : MO} : updM (updM M a o) a u = updM M a u := by
  funext b; unfold updM; split <;> rfl
theorem updM_self {M : PHp} {a : Addr} {o : MO} (h : M a = some o) : updM M a o = M := by
  funext b; unfold updM; split
  · next e => rw [e, h]
  · rfl
theorem updM_comm {M : PHp} {a b : Addr} {o u : MO} (h : a ≠ b) : updM (updM M a o) b u = updM (updM M b u) a o := by
  funext c; unfold updM
  by_cases h1 : c = b
  · subst h1; rw [if_pos rfl, if_neg (Ne.symm h), if_pos rfl]
  · rw [if_neg h1, if_neg h1]
theorem neM {M : PHp} {a b : Addr} {o : MO} (h : M a = some o) (h' : M b = none) : a ≠ b := by
  intro e; subst e; rw [h] at h'; cases h'
theorem neM' {M : PHp} {a b : Addr} {o : MO} (h : M a = some o) (h' : M b = none) : b ≠ a := (neM h h').symm
def Sub (M M' : PHp) : Prop := ∀ a o, M a = some o → M' a = some o
theorem Sub.refl (M : PHp) : Sub M M := fun _ _ h => h
theorem Sub.trans {M M1 M2 : PHp} (a : Sub M M1) (b : Sub M1 M2) : Sub M M2 := fun x o h => b x o (a x o h)
theorem Sub.new {M : PHp} {p : Addr} {o : MO} (h : M p = none) : Sub M (updM M p o) := fun a u e => by rw [updM_ne (neM e h)]; exact e
theorem Sub.upd {M M' : PHp} {p : Addr} {o : MO} (h : Sub M M') : Sub (updM M p o) (updM M' p o) := fun a u e => by
  unfold updM at e ⊢; split
  · next q => rw [if_pos q] at e; exact e
  · next q => rw [if_neg q] at e; exact h a u e

inductive RepKV (K : Kf) (H : Hp) : List (Key × PV) → List (Key × V) → Prop
  | nil : RepKV K H [] []
  | cons {k p v ps vs} : Rep K H p v → RepKV K H ps vs → RepKV K H ((k, p) :: ps) ((k, v) :: vs)
theorem RepKV.mono {K : Kf} {H H' : Hp} (t : Tk K H H') {ps vs} (h : RepKV K H ps vs) : RepKV K H' ps vs := by
  induction h with
  | nil => exact .nil
  | cons a _ ih => exact .cons (a.mono t) ih
inductive RepXD (K : Kf) (H : Hp) : List (Str × PV) → List (Str × V) → Prop
  | nil : RepXD K H [] []
  | cons {k p v ps vs} : Rep K H p v → RepXD K H ps vs → RepXD K H ((k, p) :: ps) ((k, v) :: vs)
theorem RepXD.mono {K : Kf} {H H' : Hp} (t : Tk K H H') {ps vs} (h : RepXD K H ps vs) : RepXD K H' ps vs := by
  induction h with
  | nil => exact .nil
  | cons a _ ih => exact .cons (a.mono t) ih

mutual
/-- a key -/
def keyOf : PV → NestedKey
  | .int i => .num i
  | .str x => .text x
  | .tup l => .tup (keysOf l)
  | .non => .none
  | .bl _ => .none
  | .ref _ => .none
  | .ty _ => .none
def keysOf : List PV → List NestedKey
  | [] => []
  | p :: r => keyOf p :: keysOf r
end
/-- what is a key: numbers, texts, tuples of keys -/
inductive KyD : Nat → PV → Prop
  | int {n} (i) : KyD (n + 1) (.int i)
  | str {n} (x) : KyD (n + 1) (.str x)
  | tup {n l} : (∀ x ∈ l, KyD n x) → KyD (n + 1) (.tup l)
abbrev NXs := List (NestedKey × Addr × Value)
def entryN (w : World) (x : NestedKey × Addr × Value) : DictEntry := ⟨x.1.hash w, .ref x.2.1, x.2.2⟩
def dnOk (a : Addr) (w : World) (xs : NXs) (h : Heap) : Prop := (a == sysModules) = false ∧ xs.length ≤ sizeLine ∧ (xs.map (·.1)).Nodup ∧ ∃ o es ep, h.get? a = some o ∧ o.ExactDict ∧ o.data = .dict es ep ∧ es.toList = xs.map (entryN w)
def DNo (a : Addr) (w : World) (xs : NXs) : HO := .ext (dnOk a w xs)
inductive RepN (K : Kf) (H : Hp) : List (PV × PV) → NXs → Prop
  | nil : RepN K H [] []
  | cons {p q b v u ps xs} : KyD 8 p → Rep K H p (.ref b) → Rep K H q v → RelV v u → RepN K H ps xs → RepN K H ((p, q) :: ps) ((keyOf p, b, u) :: xs)
theorem RepN.mono {K : Kf} {H H' : Hp} (t : Tk K H H') {ps xs} (h : RepN K H ps xs) : RepN K H' ps xs := by
  induction h with
  | nil => exact .nil
  | cons d a b c _ ih => exact .cons d (a.mono t) (b.mono t) c ih
def OkM (K : Kf) (H : Hp) (a : Addr) : MO → Prop
  | .dN w kvs => ∃ xs, H a = some (DNo a w xs) ∧ RepN K H kvs xs
  | .lst l => ∃ vs, H a = some (.lst vs) ∧ Reps K H l vs
  | .ro l => ∃ vs, Rd H a (.lst vs) ∧ Reps K H l vs
  | .dK kvs => ∃ vs, H a = some (.dK vs) ∧ RepKV K H kvs vs
  | .xd fs => ∃ vs, H a = some (.xd vs) ∧ RepXD K H fs vs
  | .rK o vs kvs => H a = some (.frz o (.dK vs)) ∧ RepKV K H kvs vs
  | .ins C dx fs => ∃ vs, H a = some (.ins C dx vs) ∧ RepXD K H fs vs
def RelM (K : Kf) (H : Hp) (M : PHp) : Prop := ∀ a o, M a = some o → OkM K H a o
theorem RelM.sub {K : Kf} {H : Hp} {M M' : PHp} (h : RelM K H M') (s : Sub M M') : RelM K H M := fun a o e => h a o (s a o e)
/-- what the object at b's description leans on -/
theorem OkM.stay {K : Kf} {H H' : Hp} {a : Addr} {o : MO} (h : OkM K H a o) (t : Tk K H H') (k : H' a = H a) : OkM K H' a o := by
  cases o with
  | lst l => obtain ⟨vs, e, r⟩ := h; exact ⟨vs, k.trans e, r.mono t⟩
  | ro l =>
    obtain ⟨vs, e, r⟩ := h
    refine ⟨vs, ?_, r.mono t⟩
    rcases e with e | ⟨u, e⟩
    · exact .inl (k.trans e)
    · exact .inr ⟨u, k.trans e⟩
  | dK l => obtain ⟨vs, e, r⟩ := h; exact ⟨vs, k.trans e, r.mono t⟩
  | xd l => obtain ⟨vs, e, r⟩ := h; exact ⟨vs, k.trans e, r.mono t⟩
  | rK o vs l => obtain ⟨e, r⟩ := h; exact ⟨k.trans e, r.mono t⟩
  | ins C dx l => obtain ⟨vs, e, r⟩ := h; exact ⟨vs, k.trans e, r.mono t⟩
  | dN w l => obtain ⟨vs, e, r⟩ := h; exact ⟨vs, k.trans e, r.mono t⟩
theorem OkM.there {K : Kf} {H : Hp} {a : Addr} {o : MO} (h : OkM K H a o) : H a ≠ none := by
  cases o with
  | lst l => obtain ⟨vs, e, r⟩ := h; rw [e]; simp
  | ro l =>
    obtain ⟨vs, e, r⟩ := h
    rcases e with e | ⟨u, e⟩ <;> rw [e] <;> simp
  | dK l => obtain ⟨vs, e, r⟩ := h; rw [e]; simp
  | xd l => obtain ⟨vs, e, r⟩ := h; rw [e]; simp
  | rK o vs l => obtain ⟨e, r⟩ := h; rw [e]; simp
  | ins C dx l => obtain ⟨vs, e, r⟩ := h; rw [e]; simp
  | dN w l => obtain ⟨vs, e, r⟩ := h; rw [e]; simp
theorem RelM.fresh {K : Kf} {H : Hp} {M : PHp} {p : Addr} (h : RelM K H M) (hp : H p = none) : M p = none := by
  cases q : M p with
  | none => rfl
  | some o => exact absurd hp (h p o q).there
/-- a new object that is not of M -/
theorem RelM.new {K : Kf} {H : Hp} {M : PHp} {p : Addr} {o : HO} (h : RelM K H M) (hp : H p = none) : RelM K (L2.upd H p o) M := fun a u e =>
  (h a u e).stay (.new hp) (upd_ne fun q => (h a u e).there (q ▸ hp))
/-- fresh in the heap (a module's own object aside) -/
theorem RelM.put {K : Kf} {H : Hp} {M : PHp} {p : Addr} {o : HO} {m : MO} (h : RelM K H M) (t : Tk K H (L2.upd H p o)) (hm : OkM K (L2.upd H p o) p m) : RelM K (L2.upd H p o) (updM M p m) := fun a u e => by
  by_cases hap : a = p
  · subst hap; rw [updM_same] at e; cases e; exact hm
  · rw [updM_ne hap] at e
    exact (h a u e).stay t (upd_ne hap)
theorem no_tup {H : Hp} {p : Addr} {o : HO} (h : H p = some o) (h1 : ∀ xs, o ≠ .tup xs) (h2 : ∀ u v, o ≠ .frz u v) : ∀ xs, ¬ Rd H p (.tup xs) := fun xs e => by
  rcases e with e | ⟨u, e⟩
  · rw [h] at e; exact h1 xs (Option.some.inj e)
  · rw [h] at e; exact h2 u _ (Option.some.inj e)
theorem Tk.lst {K : Kf} {H : Hp} {p : Addr} {vs : List V} {o : HO} (h : H p = some (.lst vs)) : Tk K H (L2.upd H p o) := .upd (no_tup h (fun _ z => nomatch z) (fun _ _ z => nomatch z))
theorem Tk.dK {K : Kf} {H : Hp} {p : Addr} {vs : List (Key × V)} {o : HO} (h : H p = some (.dK vs)) : Tk K H (L2.upd H p o) := .upd (no_tup h (fun _ z => nomatch z) (fun _ _ z => nomatch z))

/-- a list of the module's own -/
def KL (K : Kf) (a : Addr) (l : List PV) : Prop := ∃ vs, (∃ (o : Obj) (its : Array Value) (n : Nat), K.lookup a = some o ∧ o.cls = .type "list" ∧ o.dict = none ∧ o.data = .seq its n ∧ its.size ≤ sizeLine ∧ Vals vs its.toList) ∧ ∀ H, Reps K H l vs
/-- a list that is read -/
def rdL (K : Kf) (M : PHp) (a : Addr) (l : List PV) : Prop := M a = some (.lst l) ∨ M a = some (.ro l) ∨ KL K a l
theorem rdL.to {K : Kf} {H : Hp} {M : PHp} {a : Addr} {l : List PV} (h : rdL K M a l) (m : RelM K H M) : ∃ vs, SqL K H a vs ∧ Reps K H l vs := by
  rcases h with h | h | ⟨vs, h, r⟩
  · obtain ⟨vs, e, r⟩ := m a _ h
    exact ⟨vs, .of e, r⟩
  · obtain ⟨vs, e, r⟩ := m a _ h
    exact ⟨vs, .inl e, r⟩
  · exact ⟨vs, .inr h, r H⟩

/-! ### slots -/
abbrev PSt := List (Option PV)
abbrev PVK := PV → PHp → Prop
abbrev PXK := Value → Option Addr → PHp → Prop
inductive RelS (K : Kf) (H : Hp) : PSt → L2.St → Prop
  | nil : RelS K H [] []
  | no {ps vs v} : RelS K H ps vs → RelS K H (none :: ps) (v :: vs)
  | yes {p v ps vs} : Rep K H p v → RelS K H ps vs → RelS K H (some p :: ps) (some v :: vs)
theorem RelS.mono {K : Kf} {H H' : Hp} (t : Tk K H H') {ps vs} (h : RelS K H ps vs) : RelS K H' ps vs := by
  induction h with
  | nil => exact .nil
  | no _ ih => exact .no ih
  | yes a _ ih => exact .yes (a.mono t) ih
theorem RelS.get {K : Kf} {H : Hp} : ∀ {σ τ} {i : Nat} {p}, RelS K H σ τ → σ[i]? = some (some p) → ∃ v, τ[i]? = some (some v) ∧ Rep K H p v
  | _, _, _, _, .nil, e => by simp at e
  | _, _, 0, _, .no _, e => by simp at e
  | _, _, 0, _, .yes r _, e => by simp at e; subst e; exact ⟨_, rfl, r⟩
  | _, _, i + 1, p, .no t, e => by
    obtain ⟨u, h1, h2⟩ := RelS.get (i := i) (p := p) t (by simpa using e)
    exact ⟨u, by simpa using h1, h2⟩
  | _, _, i + 1, p, .yes _ t, e => by
    obtain ⟨u, h1, h2⟩ := RelS.get (i := i) (p := p) t (by simpa using e)
    exact ⟨u, by simpa using h1, h2⟩
theorem RelS.set {K : Kf} {H : Hp} {p v} (r : Rep K H p v) : ∀ {σ τ} (i : Nat), RelS K H σ τ → RelS K H (σ.set i (some p)) (τ.set i (some v))
  | _, _, _, .nil => .nil
  | _, _, 0, .no t => .yes r t
  | _, _, 0, .yes _ t => .yes r t
  | _, _, i + 1, .no t => .no (RelS.set r i t)
  | _, _, i + 1, .yes q t => .yes q (RelS.set r i t)
/-- forgotten slots -/
inductive SubS : PSt → PSt → Prop
  | nil : SubS [] []
  | none {x a b} : SubS a b → SubS (Option.none :: a) (x :: b)
  | same {x a b} : SubS a b → SubS (x :: a) (x :: b)
theorem SubS.refl : ∀ σ : PSt, SubS σ σ
  | [] => .nil
  | _ :: r => .same (SubS.refl r)
theorem RelS.sub {K : Kf} {H : Hp} {σ0 σ : PSt} {τ : L2.St} (h : RelS K H σ τ) (s : SubS σ0 σ) : RelS K H σ0 τ := by
  induction s generalizing τ with
  | nil => exact h
  | none _ ih =>
    cases h with
    | no t => exact .no (ih t)
    | yes r t => exact .no (ih t)
  | same _ ih =>
    cases h with
    | no t => exact .no (ih t)
    | yes r t => exact .yes r (ih t)
theorem RelS.length {K : Kf} {H : Hp} {σ : PSt} {τ : L2.St} (h : RelS K H σ τ) : σ.length = τ.length := by
  induction h with
  | nil => rfl
  | no _ ih => exact congrArg (· + 1) ih
  | yes _ _ ih => exact congrArg (· + 1) ih

/-! ### readings -/
abbrev TEp := PSt → PHp → PVK → Prop
abbrev TTp := PSt → PHp → (Bool → PHp → Prop) → Prop
abbrev TAp := PSt → PHp → (List PV → PHp → Prop) → Prop
structure PEnds where
  nx : PSt → PHp → Prop
  rt : PVK
  bk : PSt → PHp → Prop := fun _ _ => False
  ct : PSt → PHp → Prop := fun _ _ => False
abbrev TSp := PEnds → PSt → PHp → Prop
section
variable (K : Kf) (H0 : Hp)
def concE (u : TEp) : TE := fun σ H Q => ∃ σp M Qp, Tk K H0 H ∧ RelS K H σp σ ∧ RelM K H M ∧ u σp M Qp ∧ ∀ v H' p M', Tk K H H' → RelM K H' M' → Rep K H' p v → Qp p M' → Q v H'
def concT (u : TTp) : TT := fun σ H Q => ∃ σp M Qp, Tk K H0 H ∧ RelS K H σp σ ∧ RelM K H M ∧ u σp M Qp ∧ ∀ b H' M', Tk K H H' → RelM K H' M' → Qp b M' → Q b H'
def concA (u : TAp) : TA := fun σ H Q => ∃ σp M Qp, Tk K H0 H ∧ RelS K H σp σ ∧ RelM K H M ∧ u σp M Qp ∧ ∀ vs H' ps M', Tk K H H' → RelM K H' M' → Reps K H' ps vs → Qp ps M' → Q vs H'
structure EndsRel (H : Hp) (D : Ends) (Dp : PEnds) : Prop where
  nx : ∀ σ H' σp M', Tk K H H' → RelS K H' σp σ → RelM K H' M' → Dp.nx σp M' → D.nx σ H'
  rt : ∀ v H' p M', Tk K H H' → RelM K H' M' → Rep K H' p v → Dp.rt p M' → D.rt v H'
  bk : ∀ σ H' σp M', Tk K H H' → RelS K H' σp σ → RelM K H' M' → Dp.bk σp M' → D.bk σ H'
  ct : ∀ σ H' σp M', Tk K H H' → RelS K H' σp σ → RelM K H' M' → Dp.ct σp M' → D.ct σ H'
def concS (u : TSp) : TS := fun D σ H => ∃ σp M Dp, Tk K H0 H ∧ RelS K H σp σ ∧ RelM K H M ∧ u Dp σp M ∧ EndsRel K H D Dp
end
theorem EndsRel.mono {K : Kf} {H H' : Hp} {D : Ends} {Dp : PEnds} (h : EndsRel K H D Dp) (t : Tk K H H') : EndsRel K H' D Dp :=
  ⟨fun a b c d e => h.nx a b c d (t.trans e), fun a b c d e => h.rt a b c d (t.trans e), fun a b c d e => h.bk a b c d (t.trans e), fun a b c d e => h.ct a b c d (t.trans e)⟩
abbrev PEp (X : Cx) (H0 : Hp) (e : Expr) (u : TEp) : Prop := PE X e (concE X.K H0 u)
abbrev PTp (X : Cx) (H0 : Hp) (e : Expr) (u : TTp) : Prop := PT X e (concT X.K H0 u)
abbrev PWp (X : Cx) (H0 : Hp) (e : Expr) (u : TTp) : Prop := PW X e (concT X.K H0 u)
abbrev PAp (X : Cx) (H0 : Hp) (es : List Expr) (u : TAp) : Prop := PA X es (concA X.K H0 u)
abbrev PSp' (X : Cx) (H0 : Hp) (s : Stmt) (u : TSp) : Prop := PS X s (concS X.K H0 u)
abbrev PSsp (X : Cx) (H0 : Hp) (s : List Stmt) (u : TSp) : Prop := PSs X s (concS X.K H0 u)
/-- a weaker reading -/
theorem peW {X : Cx} {e : Expr} {t t' : TE} (h : PE X e t) (w : ∀ σ H Q, t' σ H Q → t σ H Q) : PE X e t' := ⟨fun pins s σ H Q I q => h.run pins s σ H Q I (w _ _ _ q)⟩
theorem ptW {X : Cx} {e : Expr} {t t' : TT} (h : PT X e t) (w : ∀ σ H Q, t' σ H Q → t σ H Q) : PT X e t' := ⟨fun pins s σ H Q I q => h.run pins s σ H Q I (w _ _ _ q)⟩
theorem pwW {X : Cx} {e : Expr} {t t' : TT} (h : PW X e t) (w : ∀ σ H Q, t' σ H Q → t σ H Q) : PW X e t' := ⟨fun wh pins s σ H Q I q => h.run wh pins s σ H Q I (w _ _ _ q)⟩
theorem paW {X : Cx} {e : List Expr} {t t' : TA} (h : PA X e t) (w : ∀ σ H Q, t' σ H Q → t σ H Q) : PA X e t' := ⟨fun pos pins s σ H Q I q => h.run pos pins s σ H Q I (w _ _ _ q)⟩
theorem psW {X : Cx} {e : Stmt} {t t' : TS} (h : PS X e t) (w : ∀ D σ H, t' D σ H → t D σ H) : PS X e t' := ⟨fun pins s σ H D I q => h.run pins s σ H D I (w _ _ _ q)⟩
theorem pssW {X : Cx} {e : List Stmt} {t t' : TS} (h : PSs X e t) (w : ∀ D σ H, t' D σ H → t D σ H) : PSs X e t' := ⟨fun pins s σ H D I q => h.run pins s σ H D I (w _ _ _ q)⟩
theorem concE.use {K : Kf} {H0 : Hp} {u : TEp} {σ : L2.St} {H : Hp} {Q : VK} {σp : PSt} {M : PHp} {Qp : PVK} (h : u σp M Qp) (t : Tk K H0 H) (s : RelS K H σp σ) (m : RelM K H M)
    (k : ∀ v H' p M', Tk K H H' → RelM K H' M' → Rep K H' p v → Qp p M' → Q v H') : concE K H0 u σ H Q := ⟨σp, M, Qp, t, s, m, h, k⟩

/-! ### leaves -/
section
variable {X : Cx} {H0 : Hp} {pos : Pos}
@[reducible] def tv (i : Nat) : TEp := fun σ M Q => match σ[i]? with | some (some p) => Q p M | _ => False
@[reducible] def tc (p : PV) : TEp := fun _ M Q => Q p M
theorem pv (i : Nat) {x : Str} (hN : X.N[i]? = some x := by rfl) (hv : Vis X.env.scope x := by first | exact Or.inl rfl | exact Or.inr (Or.inl rfl) | exact Or.inr (Or.inr rfl)) (hd : (x == ("__debug__" : Str)) = false := by decide)
    (hcd : (x == ("__classdict__" : Str)) = false := by decide) : PEp X H0 (.Name x pos) (tv i) :=
  peW (pe_var hN hv hd hcd) fun σ H Q ⟨σp, M, Qp, t, s, m, u, k⟩ => by
    unfold tv at u
    split at u
    · next p e =>
      obtain ⟨v, e1, r⟩ := s.get e
      exact ⟨v, e1, k v H p M (Tk.refl _ _) m r u⟩
    · exact u.elim
theorem pinT {i : Int} {j} : PEp X H0 (.Constant (.int i) j pos) (tc (.int i)) := peW pe_int fun σ H Q ⟨_, M, _, _, _, m, u, k⟩ => k _ H _ M (Tk.refl _ _) m (.int i) u
theorem pbl {i : Bool} {j} : PEp X H0 (.Constant (.bool i) j pos) (tc (.bl i)) := peW pe_bl fun σ H Q ⟨_, M, _, _, _, m, u, k⟩ => k _ H _ M (Tk.refl _ _) m (.bl i) u
theorem pnon {j} : PEp X H0 (.Constant .none j pos) (tc .non) := peW pe_non fun σ H Q ⟨_, M, _, _, _, m, u, k⟩ => k _ H _ M (Tk.refl _ _) m .non u
theorem pstr {x j} : PEp X H0 (.Constant (.str x) j pos) (tc (.str x)) := peW pe_str fun σ H Q ⟨_, M, _, _, _, m, u, k⟩ => k _ H _ M (Tk.refl _ _) m (.str x) u
/-- the module's own constant -/
theorem pglob {x : Str} {p : PV} {v : V} {u : Value} (hg : Gl X x) (hm : X.mg x = some u) (r : RelV v u) (hr : ∀ H, Rep X.K H p v) (hd : (x == ("__debug__" : Str)) = false := by decide) : PEp X H0 (.Name x pos) (tc p) :=
  peW (pe_glob hg hm r hd) fun σ H Q ⟨_, M, _, _, _, m, u, k⟩ => k _ H _ M (Tk.refl _ _) m (hr H) u
theorem pbltn {x : Str} {p : PV} {v : V} {u : Value} (hg : Gl X x) (hm : X.mg x = none) (hv : bootBuiltins x = some u) (r : RelV v u) (hr : ∀ H, Rep X.K H p v) (hn : x ≠ "__name__" := by decide) (hd : (x == ("__debug__" : Str)) = false := by decide) : PEp X H0 (.Name x pos) (tc p) :=
  peW (pe_bltn hg hm hv r hn hd) fun σ H Q ⟨_, M, _, _, _, m, u, k⟩ => k _ H _ M (Tk.refl _ _) m (hr H) u

/-! ### two-place operations on values -/
abbrev R2p := PV → PV → PHp → PVK → Prop
def SimR (K : Kf) (r : R2) (u : R2p) : Prop := ∀ x y H px py M (Q : VK) (Qp : PVK), Rep K H px x → Rep K H py y → RelM K H M → u px py M Qp → (∀ v H' p M', Tk K H H' → RelM K H' M' → Rep K H' p v → Qp p M' → Q v H') → r x y H Q
abbrev R1p := PV → PHp → PVK → Prop
def SimU (K : Kf) (r : V → Hp → VK → Prop) (u : R1p) : Prop := ∀ x H px M (Q : VK) (Qp : PVK), Rep K H px x → RelM K H M → u px M Qp → (∀ v H' p M', Tk K H H' → RelM K H' M' → Rep K H' p v → Qp p M' → Q v H') → r x H Q
abbrev RCp := List PV → PHp → PVK → Prop
def SimC (K : Kf) (r : List V → Hp → VK → Prop) (u : RCp) : Prop := ∀ xs H ps M (Q : VK) (Qp : PVK), Reps K H ps xs → RelM K H M → u ps M Qp → (∀ v H' p M', Tk K H H' → RelM K H' M' → Rep K H' p v → Qp p M' → Q v H') → r xs H Q
def OpP (X : Cx) (f : Value → Value → Sem Value) (u : R2p) : Prop := ∃ r, OpR X f r ∧ SimR X.K r u
def UnP (X : Cx) (f : Value → Sem Value) (u : R1p) : Prop := ∃ r, UnR X f r ∧ SimU X.K r u
def CallP (X : Cx) (f : Value) (u : RCp) : Prop := ∃ r, CallR X f r ∧ SimC X.K r u
@[reducible] def tOp (r : R2p) (ta tb : TEp) : TEp := fun σ M Q => ta σ M fun x M1 => tb σ M1 fun y M2 => r x y M2 Q
@[reducible] def tUn (r : R1p) (ta : TEp) : TEp := fun σ M Q => ta σ M fun x M1 => r x M1 Q
variable {a b : Expr} {ta tb : TEp} {r : R2p}
theorem op_conc {K : Kf} {r0 : R2} (hs : SimR K r0 r) {σ : L2.St} {H : Hp} {Q : VK} (h : concE K H0 (tOp r ta tb) σ H Q) : L2.tOp r0 (concE K H0 ta) (concE K H0 tb) σ H Q := by
  obtain ⟨σp, M, Qp, t, s, m, u, k⟩ := h
  refine ⟨σp, M, _, t, s, m, u, fun x H1 px M1 t1 m1 rx u1 => ?_⟩
  refine ⟨σp, M1, _, t.trans t1, s.mono t1, m1, u1, fun y H2 py M2 t2 m2 ry u2 => ?_⟩
  exact hs x y H2 px py M2 Q Qp (rx.mono t2) ry m2 u2 fun v H3 p M3 t3 m3 rv q => k v H3 p M3 ((t1.trans t2).trans t3) m3 rv q
theorem pop {op : Operator} (ho : OpP X (binaryOp op) r) (ha : PEp X H0 a ta) (hb : PEp X H0 b tb) : PEp X H0 (.BinOp a op b pos) (tOp r ta tb) := by
  obtain ⟨r0, h1, h2⟩ := ho
  exact peW (pe_op h1 ha hb) fun σ H Q h => op_conc h2 h
theorem pun {op : UnaryOp} {r : R1p} (ho : UnP X (unaryOp op) r) (ha : PEp X H0 a ta) : PEp X H0 (.UnaryOp op a pos) (tUn r ta) := by
  obtain ⟨r0, h1, h2⟩ := ho
  exact peW (pe_un h1 ha) fun σ H Q ⟨σp, M, Qp, t, s, m, u, k⟩ => ⟨σp, M, _, t, s, m, u, fun x H1 px M1 t1 m1 rx u1 => h2 x H1 px M1 Q Qp rx m1 u1 fun v H2 p M2 t2 m2 rv q => k v H2 p M2 (t1.trans t2) m2 rv q⟩
theorem pcmp {op : CmpOp} (ho : OpP X (compareOp op) r) (ha : PEp X H0 a ta) (hb : PEp X H0 b tb) (hm : behindInMarks op b = false) : PEp X H0 (.Compare a [op] [b] pos) (tOp r ta tb) := by
  obtain ⟨r0, h1, h2⟩ := ho
  exact peW (pe_cmpR h1 ha hb hm) fun σ H Q h => op_conc h2 h
/-! ### tests -/
@[reducible] def tB (t : TEp) : TTp := fun σ M Q => t σ M fun x M1 => match x with | .bl c => Q c M1 | _ => False
theorem tB_conc {K : Kf} {te : TEp} {σ : L2.St} {H : Hp} {Q : Bool → Hp → Prop} (h : concT K H0 (tB te) σ H Q) : concE K H0 te σ H fun x H' => ∃ k, x = .bl k ∧ Q k H' := by
  obtain ⟨σp, M, Qp, t, s, m, u, k⟩ := h
  refine ⟨σp, M, _, t, s, m, u, fun x H1 px M1 t1 m1 rx u1 => ?_⟩
  cases rx with
  | bl c => exact ⟨c, rfl, k c H1 M1 t1 m1 u1⟩
  | _ => exact u1.elim
theorem op_conc' {K : Kf} {r0 : R2} (hs : SimR K r0 r) {σ : L2.St} {H : Hp} {Q : Bool → Hp → Prop} (h : concT K H0 (tB (tOp r ta tb)) σ H Q) : tTest (L2.tOp r0 (concE K H0 ta) (concE K H0 tb)) σ H Q := by
  have h2 := tB_conc h
  exact op_conc hs h2
theorem ptcmp {op : CmpOp} (ho : OpP X (compareOp op) r) (ha : PEp X H0 a ta) (hb : PEp X H0 b tb) (hm : behindInMarks op b = false) : PTp X H0 (.Compare a [op] [b] pos) (tB (tOp r ta tb)) := by
  obtain ⟨r0, h1, h2⟩ := ho
  exact ptW (pt_cmpR h1 ha hb hm) fun σ H Q h => op_conc' h2 h
theorem ptval {e : Expr} {te : TEp} (h : PEp X H0 e te) (he : ∀ whole, isTrue e X.env whole = (do let v ← whole; standAt e.pos; holding [v] (truthy v)) := by intro _; rfl) : PTp X H0 e (tB te) :=
  ptW (pt_val h he) fun σ H Q h => tB_conc h
/-- two ways -/
@[irreducible] def br (b : Bool) (A B : Prop) : Prop := if b = true then A else B
theorem br_of {b : Bool} {A B : Prop} (h1 : b = true → A) (h2 : b = false → B) : br b A B := by
  unfold br; cases b
  · rw [if_neg Bool.false_ne_true]; exact h2 rfl
  · rw [if_pos rfl]; exact h1 rfl
theorem br_t {b : Bool} {A B : Prop} (h : b = true) (h1 : A) : br b A B := br_of (fun _ => h1) fun e => by rw [h] at e; cases e
theorem br_f {b : Bool} {A B : Prop} (h : b = false) (h1 : B) : br b A B := br_of (fun e => by rw [h] at e; cases e) fun _ => h1
theorem br_tt {A B : Prop} (h : A) : br true A B := br_t rfl h
theorem br_ff {A B : Prop} (h : B) : br false A B := br_f rfl h
theorem br_nt {A B : Prop} (h : B) : br (!true) A B := br_f rfl h
theorem br_nf {A B : Prop} (h : A) : br (!false) A B := br_t rfl h
theorem br_dec {c A B : Prop} [Decidable c] (h1 : c → A) (h2 : ¬ c → B) : br (decide c) A B := br_of (fun e => h1 (of_decide_eq_true e)) fun e => h2 (of_decide_eq_false e)
theorem br_ndec {c A B : Prop} [Decidable c] (h1 : ¬ c → A) (h2 : c → B) : br (!decide c) A B := br_of (fun e => h1 (by simpa using e)) fun e => h2 (by simpa using e)
theorem br_ite {b : Bool} {A B : Prop} (h : br b A B) : if b = true then A else B := by unfold br at h; exact h
theorem br_imp {b : Bool} {A B A' B' : Prop} (h : br b A B) (h1 : A → A') (h2 : B → B') : if b = true then A' else B' := by
  unfold br at h; cases b
  · rw [if_neg Bool.false_ne_true] at h ⊢; exact h2 h
  · rw [if_pos rfl] at h ⊢; exact h1 h
@[reducible] def tAnd (t u : TTp) : TTp := fun σ M Q => t σ M fun c M1 => br c (u σ M1 Q) (Q false M1)
@[reducible] def tOr (t u : TTp) : TTp := fun σ M Q => t σ M fun c M1 => br c (Q true M1) (u σ M1 Q)
@[reducible] def tNot (t : TTp) : TTp := fun σ M Q => t σ M fun c M1 => Q (!c) M1
variable {tt uu : TTp} {rest : List Expr}
theorem pwand1 (ha : PTp X H0 a tt) : PWp X H0 (.BoolOp .And [a] pos) tt := pw_and1 ha
theorem pwor1 (ha : PTp X H0 a tt) : PWp X H0 (.BoolOp .Or [a] pos) tt := pw_or1 ha
theorem pwand (ha : PTp X H0 a tt) (hb : PWp X H0 (.BoolOp .And (b :: rest) pos) uu) : PWp X H0 (.BoolOp .And (a :: b :: rest) pos) (tAnd tt uu) :=
  pwW (pw_and ha hb) fun σ H Q ⟨σp, M, Qp, t, s, m, u, k⟩ => ⟨σp, M, _, t, s, m, u, fun c H1 M1 t1 m1 u1 => br_imp u1 (fun q => ⟨σp, M1, Qp, t.trans t1, s.mono t1, m1, q, fun d H2 M2 t2 => k d H2 M2 (t1.trans t2)⟩) fun q => k false H1 M1 t1 m1 q⟩
theorem pwor (ha : PTp X H0 a tt) (hb : PWp X H0 (.BoolOp .Or (b :: rest) pos) uu) : PWp X H0 (.BoolOp .Or (a :: b :: rest) pos) (tOr tt uu) :=
  pwW (pw_or ha hb) fun σ H Q ⟨σp, M, Qp, t, s, m, u, k⟩ => ⟨σp, M, _, t, s, m, u, fun c H1 M1 t1 m1 u1 => br_imp u1 (fun q => k true H1 M1 t1 m1 q) fun q => ⟨σp, M1, Qp, t.trans t1, s.mono t1, m1, q, fun d H2 M2 t2 => k d H2 M2 (t1.trans t2)⟩⟩
theorem ptnot (ha : PTp X H0 a tt) : PTp X H0 (.UnaryOp .Not a pos) (tNot tt) :=
  ptW (pt_not ha) fun σ H Q ⟨σp, M, Qp, t, s, m, u, k⟩ => ⟨σp, M, _, t, s, m, u, fun c H1 M1 t1 m1 u1 => k (!c) H1 M1 t1 m1 u1⟩
/-! ### and, or, not as values of truth -/
@[reducible] def tAndV (ta tb : TEp) : TEp := fun σ M Q => ta σ M fun x M1 => match x with | .bl c => br c (tb σ M1 Q) (Q (.bl false) M1) | _ => False
@[reducible] def tOrV (ta tb : TEp) : TEp := fun σ M Q => ta σ M fun x M1 => match x with | .bl c => br c (Q (.bl true) M1) (tb σ M1 Q) | _ => False
@[reducible] def tNotV (ta : TEp) : TEp := fun σ M Q => ta σ M fun x M1 => match x with | .bl c => Q (.bl (!c)) M1 | _ => False
theorem pone {op} (h : PEp X H0 a ta) : PEp X H0 (.BoolOp op [a] pos) ta := pe_one h
theorem pand (ha : PEp X H0 a ta) (hb : PEp X H0 (.BoolOp .And (b :: rest) pos) tb) : PEp X H0 (.BoolOp .And (a :: b :: rest) pos) (tAndV ta tb) :=
  peW (pe_and ha hb) fun σ H Q ⟨σp, M, Qp, t, s, m, u, k⟩ => ⟨σp, M, _, t, s, m, u, fun x H1 px M1 t1 m1 rx u1 => by
    cases rx with
    | bl c => exact ⟨c, rfl, br_imp u1 (fun q => ⟨σp, M1, Qp, t.trans t1, s.mono t1, m1, q, fun v H2 p M2 t2 => k v H2 p M2 (t1.trans t2)⟩) fun q => k _ H1 _ M1 t1 m1 (.bl false) q⟩
    | _ => exact u1.elim⟩
theorem por (ha : PEp X H0 a ta) (hb : PEp X H0 (.BoolOp .Or (b :: rest) pos) tb) : PEp X H0 (.BoolOp .Or (a :: b :: rest) pos) (tOrV ta tb) :=
  peW (pe_or ha hb) fun σ H Q ⟨σp, M, Qp, t, s, m, u, k⟩ => ⟨σp, M, _, t, s, m, u, fun x H1 px M1 t1 m1 rx u1 => by
    cases rx with
    | bl c => exact ⟨c, rfl, br_imp u1 (fun q => k _ H1 _ M1 t1 m1 (.bl true) q) fun q => ⟨σp, M1, Qp, t.trans t1, s.mono t1, m1, q, fun v H2 p M2 t2 => k v H2 p M2 (t1.trans t2)⟩⟩
    | _ => exact u1.elim⟩
theorem pnot (ha : PEp X H0 a ta) : PEp X H0 (.UnaryOp .Not a pos) (tNotV ta) :=
  peW (pe_not ha) fun σ H Q ⟨σp, M, Qp, t, s, m, u, k⟩ => ⟨σp, M, _, t, s, m, u, fun x H1 px M1 t1 m1 rx u1 => by
    cases rx with
    | bl c => exact ⟨c, rfl, k _ H1 _ M1 t1 m1 (.bl (!c)) u1⟩
    | _ => exact u1.elim⟩
@[reducible] def tIf (t : TTp) (ta tb : TEp) : TEp := fun σ M Q => t σ M fun c M1 => br c (ta σ M1 Q) (tb σ M1 Q)
theorem pifx {c : Expr} (hc : PTp X H0 c tt) (ha : PEp X H0 a ta) (hb : PEp X H0 b tb) : PEp X H0 (.IfExp c a b pos) (tIf tt ta tb) :=
  peW (pe_ifExp hc ha hb) fun σ H Q ⟨σp, M, Qp, t, s, m, u, k⟩ => ⟨σp, M, _, t, s, m, u, fun c H1 M1 t1 m1 u1 => br_imp u1
    (fun q => ⟨σp, M1, Qp, t.trans t1, s.mono t1, m1, q, fun v H2 p M2 t2 => k v H2 p M2 (t1.trans t2)⟩) fun q => ⟨σp, M1, Qp, t.trans t1, s.mono t1, m1, q, fun v H2 p M2 t2 => k v H2 p M2 (t1.trans t2)⟩⟩
/-- a < b < c -/
@[reducible] def tChain (r r' : R2p) (ta tb tc : TEp) : TEp := fun σ M Q => ta σ M fun x M1 => tb σ M1 fun y M2 => r x y M2 fun z M3 => match z with | .bl k => br k (tc σ M3 fun w M4 => r' y w M4 Q) (Q (.bl false) M3) | _ => False
end
end PL

set_option Elab.async false
set_option linter.all false
set_option maxRecDepth 100000
set_option maxHeartbeats 2000000
/-! PL2: operators on values, calls of built-ins, subscripts. -/
namespace PL
open PySem L2
section
variable {X : Cx} {H0 : Hp} {pos : Pos} {K : Kf}

abbrev Kont (K : Kf) (H : Hp) (Q : VK) (Qp : PVK) : Prop := ∀ v H' p M', Tk K H H' → RelM K H' M' → Rep K H' p v → Qp p M' → Q v H'
/-- a new list, a new tuple -/
theorem new_lst {H : Hp} {M : PHp} {p : Addr} {l : List PV} {vs : List V} {Q : VK} {Qp : PVK} (m : RelM K H M) (hp : H p = none) (r : Reps K H l vs)
    (u : ∀ p, M p = none → Qp (.ref p) (updM M p (.lst l))) (k : Kont K H Q Qp) : Q (.ref p) (upd H p (.lst vs)) := by
  have t : Tk K H (upd H p (.lst vs)) := .new hp
  exact k _ _ _ _ t (m.put (m := .lst l) t ⟨vs, upd_same, r.mono t⟩) (.ref p) (u p (m.fresh hp))
theorem new_tup {H : Hp} {M : PHp} {l : List PV} {vs : List V} {Q : VK} {Qp : PVK} (m : RelM K H M) (r : Reps K H l vs)
    (u : Qp (.tup l) M) (k : Kont K H Q Qp) : NewT H vs Q := fun p ob hp hd => by
  have t : Tk K H (upd H p (.frz ob (.tup vs))) := .new hp
  exact k _ _ _ _ t (m.new hp) (.tup (.inl ⟨ob, upd_same, hd⟩) (r.mono t)) u
theorem old_tup {H : Hp} {M : PHp} {p : Addr} {l : List PV} {vs : List V} {Q : VK} {Qp : PVK} (m : RelM K H M) (h : SqX K H p vs) (r : Reps K H l vs)
    (u : Qp (.tup l) M) (k : Kont K H Q Qp) : Q (.ref p) H := k _ _ _ _ (Tk.refl _ _) m (.tup h r) u

/-! ### + - * // % ** -/
def addP : R2p := fun x y M Q => match x, y with
  | .int i, .int j => Q (.int (i + j)) M
  | .str a, .str b => a.length + b.length ≤ sizeLine ∧ Q (.str (a ++ b)) M
  | .tup a, .tup b => a.length + b.length ≤ sizeLine ∧ Q (.tup (a ++ b)) M
  | .ref a, .ref b => ∃ xs ys, M a = some (.lst xs) ∧ M b = some (.lst ys) ∧ xs.length + ys.length ≤ sizeLine ∧ ∀ p, M p = none → Q (.ref p) (updM M p (.lst (xs ++ ys)))
  | _, _ => False
theorem opAdd : OpP X (binaryOp .Add) addP := by
  refine ⟨_, op_add.or (op_add_str.or (op_catX.or op_cat)), fun x y H px py M Q Qp rx ry m u k => ?_⟩
  cases rx with
  | int i => cases ry with
    | int j => exact .inl ⟨i, j, rfl, rfl, k _ _ _ _ (Tk.refl _ _) m (.int _) u⟩
    | _ => exact u.elim
  | str i => cases ry with
    | str j => exact .inr (.inl ⟨i, j, rfl, rfl, u.1, k _ _ _ _ (Tk.refl _ _) m (.str _) u.2⟩)
    | _ => exact u.elim
  | tup h r => cases ry with
    | tup h' r' =>
      refine .inr (.inr (.inl ⟨_, _, _, _, rfl, rfl, h, h', by rw [← r.length, ← r'.length]; exact u.1, fun e => ?_, fun _ e => ?_, fun _ _ => new_tup m (r.append r') u.2 k⟩))
      · subst e; cases r; exact old_tup m h' r' u.2 k
      · subst e; cases r'; refine old_tup m h r ?_ k
        have := u.2; rwa [List.append_nil] at this
    | _ => exact u.elim
  | ref a => cases ry with
    | ref b =>
      obtain ⟨xs, ys, h1, h2, h3, h4⟩ := u
      obtain ⟨vs, e1, r1⟩ := m _ _ h1
      obtain ⟨ws, e2, r2⟩ := m _ _ h2
      exact .inr (.inr (.inr ⟨_, _, _, _, rfl, rfl, e1, e2, by rw [← r1.length, ← r2.length]; exact h3, fun p hp => new_lst m hp (r1.append r2) h4 k⟩))
    | _ => exact u.elim
  | _ => exact u.elim
def subP : R2p := fun x y M Q => match x, y with
  | .int i, .int j => Q (.int (i - j)) M
  | _, _ => False
theorem opSub : OpP X (binaryOp .Sub) subP := by
  refine ⟨_, op_sub, fun x y H px py M Q Qp rx ry m u k => ?_⟩
  cases rx with
  | int i => cases ry with
    | int j => exact ⟨i, j, rfl, rfl, k _ _ _ _ (Tk.refl _ _) m (.int _) u⟩
    | _ => exact u.elim
  | _ => exact u.elim
/-- the size of an int in bits is at most n -/
def Bt (i : Int) (n : Nat) : Prop := Builtin.Int.intBits i ≤ n
def mulP : R2p := fun x y M Q => match x, y with
  | .int i, .int j => IntMulOk i j ∧ Q (.int (i * j)) M
  | .tup l, .int k => l ≠ [] ∧ 1 ≤ k ∧ k ≤ 1000 ∧ l.length ≤ 1000 ∧ Q (.tup (List.replicate k.toNat l).flatten) M
  | .ref a, .int k => ∃ xs, M a = some (.lst xs) ∧ -(2 ^ 63) ≤ k ∧ k < 2 ^ 63 ∧ xs.length * k.toNat ≤ sizeLine ∧ ∀ p, M p = none → Q (.ref p) (updM M p (.lst (List.replicate k.toNat xs).flatten))
  | _, _ => False
theorem op_mulG : OpR X (binaryOp .Mult) (rI IntMulOk fun i j => .int (i * j)) := opI fun _ _ _ _ _ _ _ hc q => PyProof.Rows.mul_int q hc
theorem Reps.rep {H : Hp} {ps : List PV} {vs : List V} (r : Reps K H ps vs) : ∀ k : Nat, Reps K H (List.replicate k ps).flatten (List.replicate k vs).flatten
  | 0 => .nil
  | k + 1 => by
    simp only [List.replicate_succ, List.flatten_cons]
    exact r.append (Reps.rep r k)
theorem opMul : OpP X (binaryOp .Mult) mulP := by
  refine ⟨_, op_mulG.or ((op_repX.or op_rep1).or op_rep), fun x y H px py M Q Qp rx ry m u k => ?_⟩
  cases rx with
  | int i => cases ry with
    | int j => exact .inl ⟨i, j, rfl, rfl, u.1, k _ _ _ _ (Tk.refl _ _) m (.int _) u.2⟩
    | _ => exact u.elim
  | tup h r => cases ry with
    | int j =>
      obtain ⟨u1, u2, u3, u4, u5⟩ := u
      by_cases one : j = 1
      · subst one
        refine .inr (.inl (.inr ⟨_, _, rfl, rfl, h, old_tup m h r ?_ k⟩))
        have e : (List.replicate (1 : Int).toNat ‹List PV›).flatten = ‹List PV› := by show (List.replicate 1 _).flatten = _; simp
        rw [e] at u5; exact u5
      · exact .inr (.inl (.inl ⟨_, _, _, rfl, rfl, h, fun e => u1 (r.nil_iff.mpr e), by omega, u3, by rw [← r.length]; exact u4, new_tup m (r.rep _) u5 k⟩))
    | _ => exact u.elim
  | ref a => cases ry with
    | int j =>
      obtain ⟨xs, h1, u2, u3, u4, u5⟩ := u
      obtain ⟨vs, e1, r1⟩ := m _ _ h1
      exact .inr (.inr ⟨_, _, _, rfl, rfl, e1, u2, u3, by rw [← r1.length]; exact u4, fun p hp => new_lst m hp (r1.rep _) u5 k⟩)
    | _ => exact u.elim
  | _ => exact u.elim
def modP : R2p := fun x y M Q => match x, y with
  | .int i, .int j => j ≠ 0 ∧ Q (.int (i.fmod j)) M
  | _, _ => False
theorem opMod : OpP X (binaryOp .Mod) modP := by
  refine ⟨_, op_modN, fun x y H px py M Q Qp rx ry m u k => ?_⟩
  cases rx with
  | int i => cases ry with
    | int j => exact ⟨i, j, rfl, rfl, u.1, k _ _ _ _ (Tk.refl _ _) m (.int _) u.2⟩
    | _ => exact u.elim
  | _ => exact u.elim
/-- what // of great ints wants of the whole run -/
structure Sure (P : Program) (base : Heap) : Prop where
  seer : base.NoSeer
  tree : P.given.tree = none
def StackOk (X : Cx) : Prop := ∃ env l, X.stack = env :: l ∧ env.scope.isGenerator = false ∧ env.scope.isCoroutine = false ∧ env.builtins = builtinsNs ∧ env.globals = mainGlobals
def fdivP : R2p := fun x y M Q => match x, y with
  | .int i, .int j => j ≠ 0 ∧ Q (.int (i.fdiv j)) M
  | _, _ => False
theorem pylong_ok {pins : List (Addr × Obj)} {σ : L2.St} {H : Hp} {s : Shared} (I : Inv X pins σ H s) (S : Sure X.prog X.base) (hr : Room 33 X.A) (hst : StackOk X) : PySem.PylongRoom (model X.prog X.w) X.A s := by
  obtain ⟨env, l, e1, e2, e3, e4, e5⟩ := hst
  refine PySem.PylongRoom.of I.nolimit ?_ (PySem.SeerAt.of (env := env) (l := l) (S.seer.keeps I.bk) S.tree (by rw [I.ok.frames, e1]) e2 e3 e4 e5)
  have := hr.dp
  show X.A.depth + 100 < recursionLimit
  omega
theorem op_fdivG (S : Sure X.prog X.base) (hr : Room 33 X.A) (hst : StackOk X) : OpR X (binaryOp .FloorDiv) (rI (fun _ j => j ≠ 0) fun i j => .int (i.fdiv j)) := by
  intro held s σ H x y v u Q I rx ry hh
  obtain ⟨i, j, rfl, rfl, hj, q⟩ := hh
  obtain ⟨t, rfl⟩ := rx
  obtain ⟨t', rfl⟩ := ry
  exact PyProof.Rows.floordiv_int hj ⟨.int _, H, I.tok _, ⟨_, rfl⟩, q⟩ (.inr (pylong_ok I S hr hst))
theorem opFdiv (S : Sure X.prog X.base) (hr : Room 33 X.A) (hst : StackOk X := by exact ⟨_, _, rfl, rfl, rfl, rfl, rfl⟩) : OpP X (binaryOp .FloorDiv) fdivP := by
  refine ⟨_, op_fdivG S hr hst, fun x y H px py M Q Qp rx ry m u k => ?_⟩
  cases rx with
  | int i => cases ry with
    | int j => exact ⟨i, j, rfl, rfl, u.1, k _ _ _ _ (Tk.refl _ _) m (.int _) u.2⟩
    | _ => exact u.elim
  | _ => exact u.elim
def powP : R2p := fun x y M Q => match x, y with
  | .int i, .int j => (0 ≤ j ∧ j ≤ 1000000 ∧ i.natAbs < 2 ^ 64) ∧ Q (.int (i ^ j.toNat)) M
  | _, _ => False
theorem opPow : OpP X (binaryOp .Pow) powP := by
  refine ⟨_, op_pow, fun x y H px py M Q Qp rx ry m u k => ?_⟩
  cases rx with
  | int i => cases ry with
    | int j => exact ⟨i, j, rfl, rfl, u.1, k _ _ _ _ (Tk.refl _ _) m (.int _) u.2⟩
    | _ => exact u.elim
  | _ => exact u.elim
def negP : R1p := fun x M Q => match x with
  | .int i => Q (.int (-i)) M
  | _ => False
theorem unNeg : UnP X (unaryOp .USub) negP := by
  refine ⟨_, un_neg, fun x H px M Q Qp rx m u k => ?_⟩
  cases rx with
  | int i => exact ⟨i, rfl, k _ _ _ _ (Tk.refl _ _) m (.int _) u⟩
  | _ => exact u.elim

/-! ### comparisons -/
def icmp (f : Int → Int → Bool) : R2p := fun x y M Q => match x, y with
  | .int i, .int j => Q (.bl (f i j)) M
  | _, _ => False
theorem op_icmp {op : CmpOp} {f : Int → Int → Bool} (h : OpR X (compareOp op) (rI0 fun i j => .bl (f i j))) : OpP X (compareOp op) (icmp f) := by
  refine ⟨_, h, fun x y H px py M Q Qp rx ry m u k => ?_⟩
  cases rx with
  | int i => cases ry with
    | int j => exact ⟨i, j, rfl, rfl, k _ _ _ _ (Tk.refl _ _) m (.bl _) u⟩
    | _ => exact u.elim
  | _ => exact u.elim
abbrev leP : R2p := icmp fun i j => decide (i ≤ j)
def gtP : R2p := fun x y M Q => match x, y with
  | .int i, .int j => Q (.bl (decide (j < i))) M
  | .str a, .str b => Q (.bl (decide (b.cps.toList < a.cps.toList))) M
  | _, _ => False
abbrev geP : R2p := icmp fun i j => decide (j ≤ i)
theorem opLe : OpP X (compareOp .LtE) leP := op_icmp op_le
theorem opGt : OpP X (compareOp .Gt) gtP := by
  refine ⟨_, op_gt.or op_gt_str, fun x y H px py M Q Qp rx ry m u k => ?_⟩
  cases rx with
  | int i => cases ry with
    | int j => exact .inl ⟨i, j, rfl, rfl, k _ _ _ _ (Tk.refl _ _) m (.bl _) u⟩
    | _ => exact u.elim
  | str i => cases ry with
    | str j => exact .inr ⟨i, j, rfl, rfl, k _ _ _ _ (Tk.refl _ _) m (.bl _) u⟩
    | _ => exact u.elim
  | _ => exact u.elim
theorem opGe : OpP X (compareOp .GtE) geP := op_icmp op_ge
/-- a < b: ints, texts -/
def ltP : R2p := fun x y M Q => match x, y with
  | .int i, .int j => Q (.bl (decide (i < j))) M
  | .str a, .str b => Q (.bl (decide (a.cps.toList < b.cps.toList))) M
  | .tup a, .tup b => ∃ ns ms, a = ns.map PV.int ∧ b = ms.map PV.int ∧ Q (.bl (HT.lexLt ns ms)) M
  | _, _ => False
theorem opLt (hu : X.A.units < cLine) : OpP X (compareOp .Lt) ltP := by
  refine ⟨_, op_lt.or (op_lt_str.or (op_ltT hu)), fun x y H px py M Q Qp rx ry m u k => ?_⟩
  cases rx with
  | int i => cases ry with
    | int j => exact .inl ⟨i, j, rfl, rfl, k _ _ _ _ (Tk.refl _ _) m (.bl _) u⟩
    | _ => exact u.elim
  | str i => cases ry with
    | str j => exact .inr (.inl ⟨i, j, rfl, rfl, k _ _ _ _ (Tk.refl _ _) m (.bl _) u⟩)
    | _ => exact u.elim
  | tup h r => cases ry with
    | tup h' r' =>
      obtain ⟨ns, ms, rfl, rfl, q⟩ := u
      have e1 := r.ints; have e2 := r'.ints
      subst e1; subst e2
      exact .inr (.inr ⟨_, _, ns, ms, rfl, rfl, h.t, h'.t, k _ _ _ _ (Tk.refl _ _) m (.bl _) q⟩)
    | _ => exact u.elim
  | _ => exact u.elim
/-! == by content -/
mutual
inductive DpP (K : Kf) (M : PHp) : PV → PyData → Prop
  | non : DpP K M .non .none
  | bl (b) : DpP K M (.bl b) (.bool b)
  | int (b) : DpP K M (.int b) (.int b)
  | str (b) : DpP K M (.str b) (.str b)
  | tup {l ds} : DpsP K M l ds → DpP K M (.tup l) (.tuple ds)
  | lst {a l ds} : rdL K M a l → DpsP K M l ds → DpP K M (.ref a) (.list ds)
inductive DpsP (K : Kf) (M : PHp) : List PV → List PyData → Prop
  | nil : DpsP K M [] []
  | cons {p d ps ds} : DpP K M p d → DpsP K M ps ds → DpsP K M (p :: ps) (d :: ds)
end
mutual
theorem DpP.to {H : Hp} {M : PHp} (m : RelM K H M) : ∀ {p d v}, DpP K M p d → Rep K H p v → Dp K H v d
  | _, _, _, .non, .non => .non
  | _, _, _, .bl b, .bl _ => .bl b
  | _, _, _, .int b, .int _ => .int b
  | _, _, _, .str b, .str _ => .str b
  | _, _, _, .tup h, .tup a r => .tup a.t (DpsP.to m h r)
  | _, _, _, .lst h q, .ref _ => let ⟨_, e, r⟩ := h.to m; .lst e (DpsP.to m q r)
theorem DpsP.to {H : Hp} {M : PHp} (m : RelM K H M) : ∀ {p d v}, DpsP K M p d → Reps K H p v → DpAll K H v d
  | _, _, _, .nil, .nil => .nil
  | _, _, _, .cons h q, .cons r s => .cons (DpP.to m h r) (DpsP.to m q s)
end
/-- data without dicts, not deep -/
abbrev flatD (d : PyData) : Prop := d.plain = true ∧ d.depth ≤ 64
theorem flat_of {d : PyData} (h : SeqAt.shaped d = true) : flatD d := ⟨PyData.plain_of_canLay0 d (SeqAt.canLay_of_shaped h), SeqAt.depth_of_shaped h⟩
@[irreducible] def eqD (K : Kf) (x y : PV) (M : PHp) (Q : Bool → Prop) : Prop := ∃ d e, DpP K M x d ∧ DpP K M y e ∧ flatD d ∧ flatD e ∧ Q (PyData.eqv d e)
theorem eqD_of {x y : PV} {M : PHp} {Q : Bool → Prop} {d e : PyData} (h1 : DpP K M x d) (h2 : DpP K M y e) (h3 : SeqAt.shaped d = true) (h4 : SeqAt.shaped e = true) (q : Q (PyData.eqv d e)) : eqD K x y M Q := by
  unfold eqD; exact ⟨d, e, h1, h2, flat_of h3, flat_of h4, q⟩
theorem eqD_fl {x y : PV} {M : PHp} {Q : Bool → Prop} {d e : PyData} (h1 : DpP K M x d) (h2 : DpP K M y e) (h3 : flatD d) (h4 : flatD e) (q : Q (PyData.eqv d e)) : eqD K x y M Q := by
  unfold eqD; exact ⟨d, e, h1, h2, h3, h4, q⟩
theorem eqD_to {x y : PV} {M : PHp} {Q : Bool → Prop} (h : eqD K x y M Q) : ∃ d e, DpP K M x d ∧ DpP K M y e ∧ flatD d ∧ flatD e ∧ Q (PyData.eqv d e) := by
  unfold eqD at h; exact h
def rEqF (K : Kf) : R2 := fun x y H Q => ∃ d e, Dp K H x d ∧ Dp K H y e ∧ flatD d ∧ flatD e ∧ Q (.bl (PyData.eqv d e)) H
def rNeF (K : Kf) : R2 := fun x y H Q => ∃ d e, Dp K H x d ∧ Dp K H y e ∧ flatD d ∧ flatD e ∧ Q (.bl (!PyData.eqv d e)) H
theorem room64 {n a b : Nat} (h : n + 64 < cLine) (ha : a ≤ 64) : n + min a b < cLine := by
  have := Nat.min_le_left a b
  omega
theorem op_eqF (hu : X.A.units + 64 < cLine) : OpR X (compareOp .Eq) (rEqF X.K) := by
  intro pins s σ H x y v u Q I rx ry h
  obtain ⟨d, e, hd, he, sd, se, q⟩ := h
  obtain ⟨as, r1⟩ := Dp.reads I d x v hd rx
  obtain ⟨bs, r2⟩ := Dp.reads I e y u he ry
  exact SeqAt.eq_plain r1 r2 sd.1 se.1 (room64 hu sd.2) ⟨.bl _, H, I, rfl, q⟩
theorem op_neF (hu : X.A.units + 64 < cLine) : OpR X (compareOp .NotEq) (rNeF X.K) := by
  intro pins s σ H x y v u Q I rx ry h
  obtain ⟨d, e, hd, he, sd, se, q⟩ := h
  obtain ⟨as, r1⟩ := Dp.reads I d x v hd rx
  obtain ⟨bs, r2⟩ := Dp.reads I e y u he ry
  exact SeqAt.ne_plain r1 r2 sd.1 se.1 (room64 hu sd.2) ⟨.bl _, H, I, rfl, q⟩
/-- of one kind, plainly -/
def eqP (K : Kf) : R2p := fun x y M Q => match x, y with
  | .int i, .int j => Q (.bl (decide (i = j))) M
  | .str i, .str j => Q (.bl (decide (i = j))) M
  | .bl i, .bl j => Q (.bl (decide (i = j))) M
  | x, y => eqD K x y M fun b => Q (.bl b) M
def neP (K : Kf) : R2p := fun x y M Q => match x, y with
  | .int i, .int j => Q (.bl (!decide (i = j))) M
  | .str i, .str j => Q (.bl (!decide (i = j))) M
  | .bl i, .bl j => Q (.bl (!decide (i = j))) M
  | x, y => eqD K x y M fun b => Q (.bl (!b)) M
theorem dV_int {i j : Int} : decide (V.int i = V.int j) = decide (i = j) := by by_cases h : i = j <;> simp [h]
theorem dV_str {i j : Str} : decide (V.str i = V.str j) = decide (i = j) := by by_cases h : i = j <;> simp [h]
theorem dV_bl {i j : Bool} : decide (V.bl i = V.bl j) = decide (i = j) := by by_cases h : i = j <;> simp [h]
theorem opEq (hu : X.A.units + 64 < cLine) : OpP X (compareOp .Eq) (eqP X.K) := by
  refine ⟨_, op_eq.or (op_eqF hu), fun x y H px py M Q Qp rx ry m u k => ?_⟩
  have deep : eqD X.K px py M (fun b => Qp (.bl b) M) → rEq x y H Q ∨ rEqF X.K x y H Q := fun h => let ⟨d, e, h1, h2, h3, h4, q⟩ := eqD_to h; .inr ⟨d, e, h1.to m rx, h2.to m ry, h3, h4, k _ _ _ _ (Tk.refl _ _) m (.bl _) q⟩
  cases rx with
  | int i => cases ry with
    | int j => exact .inl ⟨rfl, by rw [dV_int]; exact k _ _ _ _ (Tk.refl _ _) m (.bl _) u⟩
    | _ => exact deep u
  | str i => cases ry with
    | str j => exact .inl ⟨rfl, by rw [dV_str]; exact k _ _ _ _ (Tk.refl _ _) m (.bl _) u⟩
    | _ => exact deep u
  | bl i => cases ry with
    | bl j => exact .inl ⟨rfl, by rw [dV_bl]; exact k _ _ _ _ (Tk.refl _ _) m (.bl _) u⟩
    | _ => exact deep u
  | _ => exact deep u
theorem opNe (hu : X.A.units + 64 < cLine) : OpP X (compareOp .NotEq) (neP X.K) := by
  refine ⟨_, op_ne.or (op_neF hu), fun x y H px py M Q Qp rx ry m u k => ?_⟩
  have deep : eqD X.K px py M (fun b => Qp (.bl (!b)) M) → rNe x y H Q ∨ rNeF X.K x y H Q := fun h => let ⟨d, e, h1, h2, h3, h4, q⟩ := eqD_to h; .inr ⟨d, e, h1.to m rx, h2.to m ry, h3, h4, k _ _ _ _ (Tk.refl _ _) m (.bl _) q⟩
  cases rx with
  | int i => cases ry with
    | int j => exact .inl ⟨rfl, by rw [dV_int]; exact k _ _ _ _ (Tk.refl _ _) m (.bl _) u⟩
    | _ => exact deep u
  | str i => cases ry with
    | str j => exact .inl ⟨rfl, by rw [dV_str]; exact k _ _ _ _ (Tk.refl _ _) m (.bl _) u⟩
    | _ => exact deep u
  | bl i => cases ry with
    | bl j => exact .inl ⟨rfl, by rw [dV_bl]; exact k _ _ _ _ (Tk.refl _ _) m (.bl _) u⟩
    | _ => exact deep u
  | _ => exact deep u
/-- is None -/
def isNP : R2p := fun x y M Q => match y with
  | .non => (match x with | .non => Q (.bl true) M | _ => Q (.bl false) M)
  | _ => False
def notNP : R2p := fun x y M Q => match y with
  | .non => (match x with | .non => Q (.bl false) M | _ => Q (.bl true) M)
  | _ => False
theorem opIsN : OpP X (compareOp .Is) isNP := by
  refine ⟨_, op_isN, fun x y H px py M Q Qp rx ry m u k => ?_⟩
  cases ry with
  | non => cases rx <;> exact ⟨rfl, k _ _ _ _ (Tk.refl _ _) m (.bl _) u⟩
  | _ => exact u.elim
theorem opNotN : OpP X (compareOp .IsNot) notNP := by
  refine ⟨_, op_notN, fun x y H px py M Q Qp rx ry m u k => ?_⟩
  cases ry with
  | non => cases rx <;> exact ⟨rfl, k _ _ _ _ (Tk.refl _ _) m (.bl _) u⟩
  | _ => exact u.elim

/-! ### x in xs -/
def flatP : PV → Bool
  | .non | .bl _ | .int _ | .str _ => true
  | _ => false
def flEq : PV → PV → Bool
  | .int i, .int j => decide (i = j)
  | .str i, .str j => decide (i = j)
  | .bl i, .bl j => decide (i = j)
  | .non, .non => true
  | .int i, .bl b => i == (if b then 1 else 0)
  | .bl b, .int i => (if b then 1 else 0) == i
  | _, _ => false
end
end PL

set_option Elab.async false
set_option linter.all false
set_option maxRecDepth 100000
set_option maxHeartbeats 2000000
/-! PL3: arguments, displays, calls, subscripts, statements, defs. -/
namespace PL
open PySem L2
theorem szl {n : Nat} (h : Nat.ble n 1000 = true) : n ≤ sizeLine := Nat.le_trans (Nat.le_of_ble_eq_true h) (by rw [sizeLine_eq]; decide)
section
variable {X : Cx} {H0 : Hp} {pos : Pos} {K : Kf}
/-! ### arguments, displays -/
@[reducible] def tNil : TAp := fun _ M Q => Q [] M
@[reducible] def tCons (ta : TEp) (tr : TAp) : TAp := fun σ M Q => ta σ M fun x M1 => tr σ M1 fun xs M2 => Q (x :: xs) M2
variable {e : Expr} {es : List Expr} {te : TEp} {ta : TAp}
theorem panil : PAp X H0 [] tNil := paW pa_nil fun σ H Q ⟨_, M, _, _, _, m, u, k⟩ => k [] H [] M (Tk.refl _ _) m .nil u
theorem pacons (ha : PEp X H0 e te) (hr : PAp X H0 es ta) (hs : starEach (e :: es) X.env = (false, eval e X.env) :: starEach es X.env := by rfl) : PAp X H0 (e :: es) (tCons te ta) :=
  paW (pa_cons ha hr hs) fun σ H Q ⟨σp, M, Qp, t, s, m, u, k⟩ => ⟨σp, M, _, t, s, m, u, fun x H1 px M1 t1 m1 rx u1 =>
    ⟨σp, M1, _, t.trans t1, s.mono t1, m1, u1, fun xs H2 ps M2 t2 m2 rs u2 => k _ H2 _ M2 (t1.trans t2) m2 (.cons (rx.mono t2) rs) u2⟩⟩
@[reducible] def tTup (ta : TAp) : TEp := fun σ M Q => ta σ M fun xs M1 => xs.length ≤ sizeLine ∧ Q (.tup xs) M1
@[reducible] def tLst (ta : TAp) : TEp := fun σ M Q => ta σ M fun xs M1 => xs.length ≤ sizeLine ∧ ∀ p, M1 p = none → Q (.ref p) (updM M1 p (.lst xs))
theorem ptup {x1} (h : PAp X H0 es ta) : PEp X H0 (.Tuple es x1 pos) (tTup ta) :=
  peW (pe_tupX h) fun σ H Q ⟨σp, M, Qp, t, s, m, u, k⟩ => ⟨σp, M, _, t, s, m, u, fun xs H1 ps M1 t1 m1 rs u1 => ⟨by rw [← rs.length]; exact u1.1, new_tup m1 rs u1.2 fun v H2 q M2 t2 => k v H2 q M2 (t1.trans t2)⟩⟩
theorem plst (h : PAp X H0 es ta) : PEp X H0 (.List es pos) (tLst ta) :=
  peW (pe_lst h) fun σ H Q ⟨σp, M, Qp, t, s, m, u, k⟩ => ⟨σp, M, _, t, s, m, u, fun xs H1 ps M1 t1 m1 rs u1 => ⟨by rw [← rs.length]; exact u1.1, fun p hp => new_lst m1 hp rs u1.2 fun v H2 q M2 t2 => k v H2 q M2 (t1.trans t2)⟩⟩

/-! ### calls -/
@[reducible] def tCB (u : RCp) (ta : TAp) : TEp := fun σ M Q => ta σ M fun ps M1 => u ps M1 Q
theorem cb_conc {r : List V → Hp → VK → Prop} {u : RCp} (hs : SimC K r u) {σ : L2.St} {H : Hp} {Q : VK} (h : concE K H0 (tCB u ta) σ H Q) : L2.tCB r (concA K H0 ta) σ H Q := by
  obtain ⟨σp, M, Qp, t, s, m, u, k⟩ := h
  exact ⟨σp, M, _, t, s, m, u, fun xs H1 ps M1 t1 m1 rs u1 => hs xs H1 ps M1 Q Qp rs m1 u1 fun v H2 p M2 t2 => k v H2 p M2 (t1.trans t2)⟩
theorem pcallB {id : String} {x : Str} {p : Pos} {u : RCp} (hc : CallP X (.builtin id) u) (hg : Gl X x) (hm : X.mg x = none) (hv : bootBuiltins x = some (.builtin id)) (ha : PAp X H0 (e :: es) ta) (hn : x ≠ "__name__" := by decide) (hdb : (x == ("__debug__" : Str)) = false := by decide)
    (he : starEach (e :: es) X.env = (false, eval e X.env) :: starEach es X.env := by rfl) (hpl : (backTo pos (starEach es X.env)).any (·.1) = false := by rfl) : PEp X H0 (.Call (.Name x p) (e :: es) [] pos) (tCB u ta) := by
  obtain ⟨r, h1, h2⟩ := hc
  exact peW (pe_callB h1 hg hm hv ha hn hdb he hpl) fun σ H Q h => cb_conc h2 h
theorem pcallTy {T : String} {x : Str} {p : Pos} {u : RCp} (hc : CallP X (.type T) u) (hg : Gl X x) (hm : X.mg x = none) (hv : bootBuiltins x = some (.type T)) (ha : PAp X H0 (e :: es) ta) (hn : x ≠ "__name__" := by decide) (hdb : (x == ("__debug__" : Str)) = false := by decide)
    (he : starEach (e :: es) X.env = (false, eval e X.env) :: starEach es X.env := by rfl) (hpl : (backTo pos (starEach es X.env)).any (·.1) = false := by rfl) : PEp X H0 (.Call (.Name x p) (e :: es) [] pos) (tCB u ta) := by
  obtain ⟨r, h1, h2⟩ := hc
  exact peW (pe_callTy h1 hg hm hv ha hn hdb he hpl) fun σ H Q h => cb_conc h2 h
theorem pcallF {id : String} {x : Str} {p : Pos} {u : RCp} (hc : CallP X (.builtin id) u) (hg : Gl X x) (hm : X.mg x = some (.builtin id)) (ha : PAp X H0 (e :: es) ta) (hdb : (x == ("__debug__" : Str)) = false := by decide)
    (he : starEach (e :: es) X.env = (false, eval e X.env) :: starEach es X.env := by rfl) (hpl : (backTo pos (starEach es X.env)).any (·.1) = false := by rfl) : PEp X H0 (.Call (.Name x p) (e :: es) [] pos) (tCB u ta) := by
  obtain ⟨r, h1, h2⟩ := hc
  exact peW (pe_callBfun h1 hg hm ha hdb he hpl) fun σ H Q h => cb_conc h2 h

def lenP (K : Kf) : RCp := fun xs M Q => match xs with
  | [.tup l] => Q (.int (l.length : Int)) M
  | [.str z] => z.length ≤ sizeLine ∧ Q (.int (z.length : Int)) M
  | [.ref a] => ∃ l, rdL K M a l ∧ Q (.int (l.length : Int)) M
  | _ => False
theorem cLen : CallP X (.builtin "len") (lenP X.K) := by
  refine ⟨_, call_len, fun xs H ps M Q Qp rs m u k => ?_⟩
  cases rs with
  | nil => exact u.elim
  | cons r rr => cases rr with
    | cons _ _ => cases r <;> exact u.elim
    | nil => cases r with
      | tup h r => exact ⟨_, _, rfl, .inr ⟨_, h.t, rfl⟩, by rw [← r.length]; exact k _ _ _ _ (Tk.refl _ _) m (.int _) u⟩
      | str z => exact ⟨_, _, rfl, ⟨u.1, rfl⟩, k _ _ _ _ (Tk.refl _ _) m (.int _) u.2⟩
      | ref a =>
        obtain ⟨l, h, q⟩ := u
        obtain ⟨vs, e, r⟩ := h.to m
        exact ⟨_, _, rfl, .inl ⟨_, e, rfl⟩, by rw [← r.length]; exact k _ _ _ _ (Tk.refl _ _) m (.int _) q⟩
      | _ => exact u.elim
def absP : RCp := fun xs M Q => match xs with
  | [.int i] => Q (.int (i.natAbs : Int)) M
  | _ => False
theorem cAbs : CallP X (.builtin "abs") absP := by
  refine ⟨_, call_abs, fun xs H ps M Q Qp rs m u k => ?_⟩
  cases rs with
  | nil => exact u.elim
  | cons r rr => cases rr with
    | cons _ _ => cases r <;> exact u.elim
    | nil => cases r with
      | int i =>
        have e : (if i < 0 then -i else i) = (i.natAbs : Int) := by split <;> omega
        exact ⟨i, rfl, by rw [e]; exact k _ _ _ _ (Tk.refl _ _) m (.int _) u⟩
      | _ => exact u.elim
def intP : RCp := fun xs M Q => match xs with
  | [.int i] => Q (.int i) M
  | [.bl b] => Q (.int (if b then 1 else 0)) M
  | _ => False
theorem cInt : CallP X (.type "int") intP := by
  refine ⟨_, call_int1, fun xs H ps M Q Qp rs m u k => ?_⟩
  cases rs with
  | nil => exact u.elim
  | cons r rr => cases rr with
    | cons _ _ => cases r <;> exact u.elim
    | nil => cases r with
      | int i => exact .inl ⟨i, rfl, k _ _ _ _ (Tk.refl _ _) m (.int _) u⟩
      | bl b => exact .inr ⟨b, rfl, k _ _ _ _ (Tk.refl _ _) m (.int _) u⟩
      | _ => exact u.elim
def gcdP : RCp := fun xs M Q => match xs with
  | [.int a, .int b] => Q (.int ((Nat.gcd a.natAbs b.natAbs : Nat) : Int)) M
  | _ => False
theorem cGcd : CallP X (.builtin "math.gcd") gcdP := by
  refine ⟨_, cr_gcd, fun xs H ps M Q Qp rs m u k => ?_⟩
  cases rs with
  | nil => exact u.elim
  | cons r rr => cases rr with
    | nil => cases r <;> exact u.elim
    | cons r2 rr2 => cases rr2 with
      | cons _ _ => cases r <;> cases r2 <;> exact u.elim
      | nil => cases r with
        | int a => cases r2 with
          | int b => exact ⟨a, b, rfl, k _ _ _ _ (Tk.refl _ _) m (.int _) u⟩
          | _ => exact u.elim
        | _ => cases r2 <;> exact u.elim
/-- tuple(xs), list(xs) of lists and tuples -/
def tupleP (K : Kf) : RCp := fun xs M Q => match xs with
  | [.tup l] => Q (.tup l) M
  | [.ref a] => ∃ l, rdL K M a l ∧ Q (.tup l) M
  | _ => False
theorem cTuple : CallP X (.type "tuple") (tupleP X.K) := by
  refine ⟨_, call_tupX, fun xs H ps M Q Qp rs m u k => ?_⟩
  cases rs with
  | nil => exact u.elim
  | cons r rr => cases rr with
    | cons _ _ => cases r <;> exact u.elim
    | nil => cases r with
      | tup h r => exact ⟨_, _, rfl, .inr ⟨h, old_tup m h r u k⟩⟩
      | ref a =>
        obtain ⟨l, h, q⟩ := u
        obtain ⟨vs, e, r⟩ := h.to m
        exact ⟨_, _, rfl, .inl ⟨e, new_tup m r q k⟩⟩
      | _ => exact u.elim
def listP (K : Kf) : RCp := fun xs M Q => match xs with
  | [.tup l] => ∀ p, M p = none → Q (.ref p) (updM M p (.lst l))
  | [.ref a] => ∃ l, rdL K M a l ∧ ∀ p, M p = none → Q (.ref p) (updM M p (.lst l))
  | _ => False
theorem cList : CallP X (.type "list") (listP X.K) := by
  refine ⟨_, call_list_of, fun xs H ps M Q Qp rs m u k => ?_⟩
  cases rs with
  | nil => exact u.elim
  | cons r rr => cases rr with
    | cons _ _ => cases r <;> exact u.elim
    | nil => cases r with
      | tup h r => exact ⟨_, _, rfl, .inr h.t, fun p hp => new_lst m hp r u k⟩
      | ref a =>
        obtain ⟨l, h, q⟩ := u
        obtain ⟨vs, e, r⟩ := h.to m
        exact ⟨_, _, rfl, .inl e, fun p hp => new_lst m hp r q k⟩
      | _ => exact u.elim
/-! isinstance -/
def isiT (t n : String) : Bool := t == n || (t == "bool" && n == "int")
def tyName (K : Kf) (M : PHp) : PV → String → Prop
  | .non, t => t = "NoneType"
  | .bl _, t => t = "bool"
  | .int _, t => t = "int"
  | .str _, t => t = "str"
  | .tup _, t => t = "tuple"
  | .ref a, t => (∃ l, (M a = some (.lst l)) ∧ t = "list") ∨ (∃ l, M a = some (.dK l) ∧ t = "dict")
  | .ty _, _ => False
theorem tyX_of {H : Hp} {M : PHp} (m : RelM K H M) {p : PV} {v : V} {t : String} (r : Rep K H p v) (h : tyName K M p t) : TyX K H v (.type t) := by
  cases r with
  | non => subst h; exact .base .non
  | bl b => subst h; exact .base (.bl b)
  | int b => subst h; exact .base (.int b)
  | str b => subst h; exact .base (.str b)
  | ty b => exact h.elim
  | ref a =>
    rcases h with ⟨l, h, rfl⟩ | ⟨l, h, rfl⟩
    · obtain ⟨vs, e, _⟩ := m a _ h
      exact .base (.lst e)
    · obtain ⟨vs, e, _⟩ := m a _ h
      exact .base (.dK e)
  | tup h1 r =>
    subst h
    rcases h1 with ⟨o, e, _⟩ | ⟨o, _, _, e, c, _⟩
    · exact .fTuple e
    · exact .kTuple e c
def isiKit (t n : String) : Bool := (["NoneType", "bool", "int", "str", "tuple", "list", "dict"].contains t) && (["bool", "int", "str", "tuple", "list", "dict"].contains n)
theorem isi_all : (["NoneType", "bool", "int", "str", "tuple", "list", "dict"].all fun t => ["bool", "int", "str", "tuple", "list", "dict"].all fun n => kitB t n == some (isiT t n)) = true := by decide +kernel
theorem kit_isi {t n : String} (h : isiKit t n = true) : kitB t n = some (isiT t n) := by
  unfold isiKit at h
  rw [Bool.and_eq_true] at h
  have h1 := List.all_eq_true.mp isi_all t (List.contains_iff_mem.mp h.1)
  have h2 := List.all_eq_true.mp h1 n (List.contains_iff_mem.mp h.2)
  exact beq_iff_eq.mp h2
theorem br_i1 {t n : String} {A B : Prop} (h : isiT t n = true) (a : A) : br (isiT t n) A B := br_t h a
theorem br_i0 {t n : String} {A B : Prop} (h : isiT t n = false) (a : B) : br (isiT t n) A B := br_f h a
theorem br_n1 {t n : String} {A B : Prop} (h : isiT t n = true) (a : B) : br (!isiT t n) A B := br_f (by rw [h]; rfl) a
theorem br_n0 {t n : String} {A B : Prop} (h : isiT t n = false) (a : A) : br (!isiT t n) A B := br_t (by rw [h]; rfl) a
def isiP (K : Kf) : RCp := fun xs M Q => match xs with
  | [.non, .ty n] => isiKit "NoneType" n = true ∧ Q (.bl (isiT "NoneType" n)) M
  | [.bl _, .ty n] => isiKit "bool" n = true ∧ Q (.bl (isiT "bool" n)) M
  | [.int _, .ty n] => isiKit "int" n = true ∧ Q (.bl (isiT "int" n)) M
  | [.str _, .ty n] => isiKit "str" n = true ∧ Q (.bl (isiT "str" n)) M
  | [.tup _, .ty n] => isiKit "tuple" n = true ∧ Q (.bl (isiT "tuple" n)) M
  | [.ref a, .ty n] => ∃ t, tyName K M (.ref a) t ∧ isiKit t n = true ∧ Q (.bl (isiT t n)) M
  | _ => False
theorem cIsi : CallP X (.builtin "isinstance") (isiP X.K) := by
  refine ⟨_, call_isi, fun xs H ps M Q Qp rs m u k => ?_⟩
  cases rs with
  | nil => exact u.elim
  | cons r rr => cases rr with
    | nil => cases r <;> exact u.elim
    | cons r2 rr2 => cases rr2 with
      | cons _ _ => cases r <;> cases r2 <;> exact u.elim
      | nil =>
        cases r2 with
        | ty n =>
          have go : ∀ (v : V) (p : PV) (t : String), Rep X.K H p v → tyName X.K M p t → isiKit t n = true → Qp (.bl (isiT t n)) M → rIsi X.K [v, .ty n] H Q := fun v p t r h1 h2 q =>
            ⟨v, .ty n, .type t, .type n, _, rfl, .ty n, tyX_of m r h1, kit_ty (kit_isi h2), k _ _ _ _ (Tk.refl _ _) m (.bl _) q⟩
          cases r with
          | non => exact go _ _ _ .non rfl u.1 u.2
          | bl b => exact go _ _ _ (.bl b) rfl u.1 u.2
          | int b => exact go _ _ _ (.int b) rfl u.1 u.2
          | str b => exact go _ _ _ (.str b) rfl u.1 u.2
          | tup a b => exact go _ _ _ (.tup a b) rfl u.1 u.2
          | ref a => obtain ⟨t, h1, h2, h3⟩ := u; exact go _ _ _ (.ref a) h1 h2 h3
          | ty b => exact u.elim
        | _ => cases r <;> exact u.elim

/-! ### subscripts -/
def ixP (K : Kf) : R2p := fun x y M Q => match x, y with
  | .tup l, .int i => ∃ v, atI l i = some v ∧ Q v M
  | .ref a, .int i => ∃ l, rdL K M a l ∧ ∃ v, atI l i = some v ∧ Q v M
  | .str z, .int i => z.length ≤ sizeLine ∧ ∃ c, atI z.cps.toList i = some c ∧ Q (.str ⟨#[c]⟩) M
  | _, _ => False
theorem Reps.at {H : Hp} {ps : List PV} {vs : List V} {i : Int} {p : PV} (r : Reps K H ps vs) (h : atI ps i = some p) : ∃ v, atI vs i = some v ∧ Rep K H p v := by
  unfold atI at h ⊢
  rw [r.length] at h
  cases e : ixN vs.length i with
  | none => rw [e] at h; cases h
  | some j => rw [e] at h; exact r.get h
theorem pix {a b : Expr} {ta tb : TEp} (ha : PEp X H0 a ta) (hb : PEp X H0 b tb) (hs : PlainIx b := by exact fun _ _ => rfl) : PEp X H0 (.Subscript a b pos) (tOp (ixP X.K) ta tb) := by
  refine peW (pe_ix ix_seq ha hb hs) fun σ H Q h => op_conc (r0 := rIx X.K) (fun x y H px py M Q Qp rx ry m u k => ?_) h
  cases rx with
  | tup h r => cases ry with
    | int i =>
      obtain ⟨v, e, q⟩ := u
      obtain ⟨w, e2, rw⟩ := r.at e
      exact .inr (.inl ⟨_, _, i, w, rfl, rfl, h.t, e2, k _ _ _ _ (Tk.refl _ _) m rw q⟩)
    | _ => exact u.elim
  | ref a => cases ry with
    | int i =>
      obtain ⟨l, h, v, e, q⟩ := u
      obtain ⟨vs, es, r⟩ := h.to m
      obtain ⟨w, e2, rw⟩ := r.at e
      exact .inl ⟨_, _, i, w, rfl, rfl, es, e2, k _ _ _ _ (Tk.refl _ _) m rw q⟩
    | _ => exact u.elim
  | str z => cases ry with
    | int i =>
      obtain ⟨h, c, e, q⟩ := u
      exact .inr (.inr ⟨z, i, c, rfl, rfl, h, e, k _ _ _ _ (Tk.refl _ _) m (.str _) q⟩)
    | _ => exact u.elim
  | _ => exact u.elim

/-! ### statements -/
/-- a stop between two statements -/
@[irreducible] def Stp (u : TSp) (D : PEnds) (σ : PSt) (M : PHp) : Prop := u D σ M
theorem stp {u : TSp} {D : PEnds} {σ : PSt} {M : PHp} (h : u D σ M) : Stp u D σ M := by unfold Stp; exact h
theorem stp_of {u : TSp} {D : PEnds} {σ : PSt} {M : PHp} (h : Stp u D σ M) : u D σ M := by unfold Stp at h; exact h
@[reducible] def tNext : TSp := fun D σ M => D.nx σ M
def nxt (D : PEnds) (f : PSt → PHp → Prop) : PEnds := { nx := f, rt := D.rt, bk := D.bk, ct := D.ct }
@[reducible] def tSeq (t u : TSp) : TSp := fun D σ M => t (nxt D fun σ1 M1 => Stp u D σ1 M1) σ M
variable {st : Stmt} {rest sts : List Stmt} {ts us : TSp}
theorem seq_conc {σ : L2.St} {H : Hp} {D : Ends} (h : concS K H0 (tSeq ts us) D σ H) : L2.tSeq (concS K H0 ts) (concS K H0 us) D σ H := by
  obtain ⟨σp, M, Dp, t, s, m, u, k⟩ := h
  refine ⟨σp, M, _, t, s, m, u, ⟨fun σ1 H1 σp1 M1 t1 s1 m1 q => ?_, k.rt, k.bk, k.ct⟩⟩
  exact ⟨σp1, M1, Dp, t.trans t1, s1, m1, stp_of q, k.mono t1⟩
theorem pssnil : PSsp X H0 [] tNext := pssW pss_nil fun D σ H ⟨σp, M, Dp, t, s, m, u, k⟩ => k.nx _ _ _ _ (Tk.refl _ _) s m u
theorem psscons (h1 : PSp' X H0 st ts) (h2 : PSsp X H0 rest us) : PSsp X H0 (st :: rest) (tSeq ts us) := pssW (pss_cons h1 h2) fun D σ H h => seq_conc h
theorem pssone (h1 : PSp' X H0 st ts) : PSsp X H0 [st] ts := pss_one h1
@[reducible] def tBreak : TSp := fun D σ M => D.bk σ M
@[reducible] def tCont : TSp := fun D σ M => D.ct σ M
theorem pspass : PSp' X H0 (.Pass pos) tNext := psW ps_pass fun D σ H ⟨σp, M, Dp, t, s, m, u, k⟩ => k.nx _ _ _ _ (Tk.refl _ _) s m u
theorem psbreak : PSp' X H0 (.Break pos) tBreak := psW ps_break fun D σ H ⟨σp, M, Dp, t, s, m, u, k⟩ => k.bk _ _ _ _ (Tk.refl _ _) s m u
theorem pscont : PSp' X H0 (.Continue pos) tCont := psW ps_continue fun D σ H ⟨σp, M, Dp, t, s, m, u, k⟩ => k.ct _ _ _ _ (Tk.refl _ _) s m u
theorem psdoc {x j pos'} : PSp' X H0 (.Expr (.Constant (.str x) j pos) pos') tNext := psW ps_doc fun D σ H ⟨σp, M, Dp, t, s, m, u, k⟩ => k.nx _ _ _ _ (Tk.refl _ _) s m u
@[reducible] def tDrop (te : TEp) : TSp := fun D σ M => te σ M fun _ M1 => D.nx σ M1
theorem psexpr (he : PEp X H0 e te) (hs : swapsWith e none pos.line X.env = pure false := by rfl) : PSp' X H0 (.Expr e pos) (tDrop te) :=
  psW (ps_expr he hs) fun D σ H ⟨σp, M, Dp, t, s, m, u, k⟩ => ⟨σp, M, _, t, s, m, u, fun v H1 p M1 t1 m1 r u1 => k.nx _ _ _ _ t1 (s.mono t1) m1 u1⟩
@[reducible] def tRet (te : TEp) : TSp := fun D σ M => te σ M D.rt
theorem psret (he : PEp X H0 e te) : PSp' X H0 (.Return (some e) pos) (tRet te) :=
  psW (ps_ret he) fun D σ H ⟨σp, M, Dp, t, s, m, u, k⟩ => ⟨σp, M, _, t, s, m, u, fun v H1 p M1 t1 m1 r u1 => k.rt _ _ _ _ t1 m1 r u1⟩
@[reducible] def tRetN : TSp := fun D _ M => D.rt .non M
theorem psretN : PSp' X H0 (.Return none pos) tRetN := psW ps_retN fun D σ H ⟨σp, M, Dp, t, s, m, u, k⟩ => k.rt _ _ _ _ (Tk.refl _ _) m .non u
@[reducible] def tIfS (c : TTp) (t u : TSp) : TSp := fun D σ M => c σ M fun b M1 => br b (t D σ M1) (u D σ M1)
theorem psif {c : Expr} {a b : List Stmt} {tc : TTp} (hc : PTp X H0 c tc) (ha : PSsp X H0 a ts) (hb : PSsp X H0 b us) : PSp' X H0 (.If c a b pos) (tIfS tc ts us) :=
  psW (ps_if hc ha hb) fun D σ H ⟨σp, M, Dp, t, s, m, u, k⟩ => ⟨σp, M, _, t, s, m, u, fun c H1 M1 t1 m1 u1 => br_imp u1
    (fun q => ⟨σp, M1, Dp, t.trans t1, s.mono t1, m1, q, k.mono t1⟩) fun q => ⟨σp, M1, Dp, t.trans t1, s.mono t1, m1, q, k.mono t1⟩⟩

/-! ### targets -/
abbrev TGp := PV → PSt → PHp → (PSt → PHp → Prop) → Prop
abbrev TGsp := List PV → PSt → PHp → (PSt → PHp → Prop) → Prop
def concG (K : Kf) (H0 : Hp) (g : TGp) : TG := fun v σ H Q => ∃ p σp M Qp, Tk K H0 H ∧ Rep K H p v ∧ RelS K H σp σ ∧ RelM K H M ∧ g p σp M Qp ∧ ∀ σ' H' σp' M', Tk K H H' → RelS K H' σp' σ' → RelM K H' M' → Qp σp' M' → Q σ' H'
def concGs (K : Kf) (H0 : Hp) (g : TGsp) : TGs := fun vs σ H Q => ∃ ps σp M Qp, Tk K H0 H ∧ Reps K H ps vs ∧ RelS K H σp σ ∧ RelM K H M ∧ g ps σp M Qp ∧ ∀ σ' H' σp' M', Tk K H H' → RelS K H' σp' σ' → RelM K H' M' → Qp σp' M' → Q σ' H'
abbrev PGp (X : Cx) (H0 : Hp) (e : Expr) (g : TGp) : Prop := PG X e (concG X.K H0 g)
abbrev PGsp (X : Cx) (H0 : Hp) (es : List Expr) (g : TGsp) : Prop := PGs X es (concGs X.K H0 g)
theorem pgW {t t' : TG} (h : PG X e t) (w : ∀ v σ H Q, t' v σ H Q → t v σ H Q) : PG X e t' := ⟨fun pins s σ H v u Q I r q => h.run pins s σ H v u Q I r (w _ _ _ _ q)⟩
theorem pgsW {t t' : TGs} (h : PGs X es t) (w : ∀ v σ H Q, t' v σ H Q → t v σ H Q) : PGs X es t' := ⟨fun pins s σ H v u Q I r q => h.run pins s σ H v u Q I r (w _ _ _ _ q)⟩
@[reducible] def gName (i : Nat) : TGp := fun v σ M Q => Q (σ.set i (some v)) M
theorem pgname {i : Nat} {x : Str} (hN : X.N.Nodup) (hi : X.N[i]? = some x := by rfl) (hx : Loc X.env.scope x := by first | exact .inl rfl | exact .inr rfl) (hf : X.fn x = true ∨ X.env.scope.names.lookup x = some .local := by first | exact .inl rfl | exact .inr rfl) : PGp X H0 (.Name x pos) (gName i) :=
  pgW (pg_name hN hi hx hf) fun v σ H Q ⟨p, σp, M, Qp, t, r, s, m, u, k⟩ => k _ _ _ _ (Tk.refl _ _) (s.set r i) m u
@[reducible] def gNil : TGsp := fun vs σ M Q => match vs with | [] => Q σ M | _ => False
@[reducible] def gCons (t : TGp) (u : TGsp) : TGsp := fun vs σ M Q => match vs with | v :: r => t v σ M fun σ' M' => u r σ' M' Q | [] => False
theorem pgsnil : PGsp X H0 [] gNil := pgsW pgs_nil fun v σ H Q ⟨p, σp, M, Qp, t, r, s, m, u, k⟩ => by
  cases r with
  | nil => exact ⟨rfl, k _ _ _ _ (Tk.refl _ _) s m u⟩
  | cons _ _ => exact u.elim
theorem pgscons {g : TGp} {gs : TGsp} (h1 : PGp X H0 e g) (h2 : PGsp X H0 es gs) (hs : (assignEach (e :: es) X.env).map (·.2) = assign e X.env :: (assignEach es X.env).map (·.2) := by rfl) : PGsp X H0 (e :: es) (gCons g gs) :=
  pgsW (pgs_cons h1 h2 hs) fun v σ H Q ⟨p, σp, M, Qp, t, r, s, m, u, k⟩ => by
    cases r with
    | nil => exact u.elim
    | cons r rr => exact ⟨_, _, rfl, _, σp, M, _, t, r, s, m, u, fun σ1 H1 σp1 M1 t1 s1 m1 u1 => ⟨_, σp1, M1, Qp, t.trans t1, rr.mono t1, s1, m1, u1, fun σ2 H2 σp2 M2 t2 => k σ2 H2 σp2 M2 (t1.trans t2)⟩⟩
@[reducible] def gTup (n : Nat) (g : TGsp) : TGp := fun v σ M Q => match v with | .tup l => l.length = n ∧ g l σ M Q | _ => False
theorem pgtup {gs : TGsp} {j : Nat} {n : Nat} (hc : X.calm = true) (h : PGsp X H0 es gs) (hn : (assignEach es X.env).length = n := by rfl) (hst : (assignEach es X.env).findIdx? (·.1) = none := by rfl) : PGp X H0 (.Tuple es j pos) (gTup n gs) :=
  pgW (pg_tup hc h hn hst) fun v σ H Q ⟨p, σp, M, Qp, t, r, s, m, u, k⟩ => by
    cases r with
    | tup h r => exact ⟨_, _, rfl, h.t, by rw [← r.length]; exact u.1, _, σp, M, Qp, t, r, s, m, u.2, k⟩
    | _ => exact u.elim
/-- xs[i] = v -/
abbrev TSetp := PV → PV → PV → PHp → (PHp → Prop) → Prop
@[reducible] def gSub (to ti : TEp) (t : TSetp) : TGp := fun v σ M Q => to σ M fun o M1 => ti σ M1 fun i M2 => t o i v M2 fun M3 => Q σ M3
def setP : TSetp := fun o i v M Q => match o, i with
  | .ref a, .int k => ∃ xs j, M a = some (.lst xs) ∧ ixN xs.length k = some j ∧ Q (updM M a (.lst (xs.set j v)))
  | _, _ => False
theorem Tk_set {H : Hp} {M : PHp} {a : Addr} {l l' : List PV} {vs vs' : List V} (m : RelM K H M) (e : H a = some (.lst vs)) (r : Reps K H l' vs') : Tk K H (upd H a (.lst vs')) ∧ RelM K (upd H a (.lst vs')) (updM M a (.lst l')) :=
  ⟨.lst e, m.put (m := .lst l') (.lst e) ⟨vs', upd_same, r.mono (.lst e)⟩⟩
theorem pgsub {o i : Expr} {to ti : TEp} (ho : PEp X H0 o to) (hi : PEp X H0 i ti)
    (ha : ∀ z, assign (.Subscript o i pos) X.env z = (do
      let zo ← holding [z] (eval o X.env); let zi ← holding [z, zo] (eval i X.env); standAt pos
      holding [z, zo, zi] (setItem zo zi z); release [z, zo, zi] []) := by intro _; rfl) : PGp X H0 (.Subscript o i pos) (gSub to ti setP) :=
  pgW (pg_sub ho hi set_list ha) fun v σ H Q ⟨p, σp, M, Qp, t, r, s, m, u, k⟩ =>
    ⟨σp, M, _, t, s, m, u, fun o H1 po M1 t1 m1 r1 u1 => ⟨σp, M1, _, t.trans t1, s.mono t1, m1, u1, fun i H2 pi M2 t2 m2 r2 u2 => by
      have ro := r1.mono t2
      cases ro with
      | ref a => cases r2 with
        | int j =>
          obtain ⟨xs, n, h1, h2, q⟩ := u2
          obtain ⟨vs, e, rv⟩ := m2 _ _ h1
          obtain ⟨tk, mm⟩ := Tk_set (l := xs) m2 e (rv.set (r.mono (t1.trans t2)) n)
          exact ⟨_, _, _, _, rfl, rfl, e, by rw [← rv.length]; exact h2, k _ _ _ _ ((t1.trans t2).trans tk) (s.mono ((t1.trans t2).trans tk)) mm q⟩
        | _ => exact u2.elim
      | _ => exact u2.elim⟩⟩
@[reducible] def tAsg (te : TEp) (g : TGp) : TSp := fun D σ M => te σ M fun x M1 => g x σ M1 D.nx
theorem psasg {tg : Expr} {g : TGp} (he : PEp X H0 e te) (hg : PGp X H0 tg g) (hs : swapsWithSole [tg] e pos.line X.env = pure false := by rfl) (hw : swappedStores [tg] e X.env = pure none := by rfl) (h1 : (assignEach [tg] X.env).map (·.2) = [assign tg X.env] := by rfl) : PSp' X H0 (.Assign [tg] e pos) (tAsg te g) :=
  psW (ps_asg he hg hs hw h1) fun D σ H ⟨σp, M, Dp, t, s, m, u, k⟩ => ⟨σp, M, _, t, s, m, u, fun v H1 p M1 t1 m1 r u1 => ⟨p, σp, M1, _, t.trans t1, r, s.mono t1, m1, u1, fun σ2 H2 σp2 M2 t2 => k.nx σ2 H2 σp2 M2 (t1.trans t2)⟩⟩
theorem psset (i : Nat) {x : Str} {pos' : Pos} (hN : X.N.Nodup) (he : PEp X H0 e te) (hi : X.N[i]? = some x := by rfl) (hx : Loc X.env.scope x := by first | exact .inl rfl | exact .inr rfl) (hs : swapsWith e (some (.Name x pos')) pos.line X.env = pure false := by rfl)
    (hf : X.fn x = true ∨ X.env.scope.names.lookup x = some .local := by first | exact .inl rfl | exact .inr rfl) : PSp' X H0 (.Assign [.Name x pos'] e pos) (tAsg te (gName i)) :=
  psW (ps_set hN hi hx he hs hf) fun D σ H ⟨σp, M, Dp, t, s, m, u, k⟩ => ⟨σp, M, _, t, s, m, u, fun v H1 p M1 t1 m1 r u1 => k.nx _ _ _ _ t1 ((s.mono t1).set r i) m1 u1⟩
/-- a, b = e1, e2 -/
@[reducible] def tPar (i j : Nat) (ta : TAp) : TSp := fun D σ M => ta σ M fun vs M1 => match vs with | [v, w] => D.nx ((σ.set i (some v)).set j (some w)) M1 | _ => False
theorem pspar (i j : Nat) {x y : Str} {a b : Expr} {px py pt : Pos} {kt k2 pt2} (hc : X.calm = true) (hN : X.N.Nodup) (ha : PAp X H0 [a, b] ta) (hi : X.N[i]? = some x := by rfl) (hj : X.N[j]? = some y := by rfl) (hij : i ≠ j := by decide)
    (p : ∀ t, PA X [a, b] t → PS X (.Assign [.Tuple [.Name x px, .Name y py] kt pt] (.Tuple [a, b] k2 pt2) pos) (L2.tPar i j t)) : PSp' X H0 (.Assign [.Tuple [.Name x px, .Name y py] kt pt] (.Tuple [a, b] k2 pt2) pos) (tPar i j ta) :=
  psW (p _ ha) fun D σ H ⟨σp, M, Dp, t, s, m, u, k⟩ => ⟨σp, M, _, t, s, m, u, fun vs H1 ps M1 t1 m1 rs u1 => by
    cases rs with
    | nil => exact u1.elim
    | cons r rr => cases rr with
      | nil => exact u1.elim
      | cons r2 rr2 => cases rr2 with
        | nil => exact ⟨_, _, rfl, k.nx _ _ _ _ t1 (((s.mono t1).set r i).set r2 j) m1 u1⟩
        | cons _ _ => exact u1.elim⟩
/-- x op= e -/
@[reducible] def tAug (i : Nat) (te : TEp) (r : R2p) : TSp := fun D σ M => match σ[i]? with | some (some x) => te σ M fun y M1 => r x y M1 fun z M2 => D.nx (σ.set i (some z)) M2 | _ => False
theorem psaug (i : Nat) {x : Str} {op : Operator} {pos' : Pos} {r : R2p} (hN : X.N.Nodup) (ho : OpP X (inplaceOp op) r) (he : PEp X H0 e te) (hi : X.N[i]? = some x := by rfl) (hx : Loc X.env.scope x := by first | exact .inl rfl | exact .inr rfl)
    (hf : X.fn x = true ∨ X.env.scope.names.lookup x = some .local := by first | exact .inl rfl | exact .inr rfl) : PSp' X H0 (.AugAssign (.Name x pos') op e pos) (tAug i te r) := by
  obtain ⟨r0, h1, h2⟩ := ho
  refine psW (ps_aug (ti := r0) hN hi hx he h1 hf) fun D σ H ⟨σp, M, Dp, t, s, m, u, k⟩ => ?_
  unfold tAug at u
  split at u
  · next p e =>
    obtain ⟨v, e1, rv⟩ := s.get e
    exact ⟨v, e1, σp, M, _, t, s, m, u, fun y H1 py M1 t1 m1 ry u1 => h2 v y H1 p py M1 _ _ (rv.mono t1) ry m1 u1 fun z H2 pz M2 t2 m2 rz q => k.nx _ _ _ _ (t1.trans t2) ((s.mono (t1.trans t2)).set rz i) m2 q⟩
  · exact u.elim
def iaddP : R2p := fun x y M Q => match x, y with
  | .int i, .int j => Q (.int (i + j)) M
  | .str a, .str b => a.length + b.length ≤ sizeLine ∧ Q (.str (a ++ b)) M
  | _, _ => False
theorem iopAdd : OpP X (inplaceOp .Add) iaddP := by
  refine ⟨_, iop_add.or iop_add_str, fun x y H px py M Q Qp rx ry m u k => ?_⟩
  cases rx with
  | int i => cases ry with
    | int j => exact .inl ⟨i, j, rfl, rfl, k _ _ _ _ (Tk.refl _ _) m (.int _) u⟩
    | _ => exact u.elim
  | str i => cases ry with
    | str j => exact .inr ⟨i, j, rfl, rfl, u.1, k _ _ _ _ (Tk.refl _ _) m (.str _) u.2⟩
    | _ => exact u.elim
  | _ => exact u.elim
theorem iopSub : OpP X (inplaceOp .Sub) subP := by
  refine ⟨_, iop_sub, fun x y H px py M Q Qp rx ry m u k => ?_⟩
  cases rx with
  | int i => cases ry with
    | int j => exact ⟨i, j, rfl, rfl, k _ _ _ _ (Tk.refl _ _) m (.int _) u⟩
    | _ => exact u.elim
  | _ => exact u.elim
def imulP : R2p := fun x y M Q => match x, y with
  | .int i, .int j => IntMulOk i j ∧ Q (.int (i * j)) M
  | _, _ => False
theorem iop_mulG : OpR X (inplaceOp .Mult) (rI IntMulOk fun i j => .int (i * j)) := opI fun _ _ _ _ _ _ _ hc q => PyProof.Rows.imul_int q hc
theorem iopMul : OpP X (inplaceOp .Mult) imulP := by
  refine ⟨_, iop_mulG, fun x y H px py M Q Qp rx ry m u k => ?_⟩
  cases rx with
  | int i => cases ry with
    | int j => exact ⟨i, j, rfl, rfl, u.1, k _ _ _ _ (Tk.refl _ _) m (.int _) u.2⟩
    | _ => exact u.elim
  | _ => exact u.elim
end
end PL

set_option Elab.async false
set_option linter.all false
set_option maxRecDepth 100000
set_option maxHeartbeats 2000000
/-! PL4: loops, comprehensions, defs and their calls. -/
namespace PL
open PySem L2
section
variable {X : Cx} {H0 : Hp} {pos : Pos} {K : Kf}
/-! ### what is walked -/
structure ItR (K : Kf) (H1 : Hp) (J : It) (items : List PV) (keep : PHp → Prop) : Prop where
  go : ∀ i H M, Tk K H1 H → RelM K H M → keep M → i < items.length → J.go i H
  yld : ∀ i H M x H', Tk K H1 H → RelM K H M → keep M → i < items.length → J.yld i H x H' → ∃ p, items[i]? = some p ∧ Rep K H' p x ∧ Tk K H H' ∧ ∀ M, RelM K H M → RelM K H' M
  stop : ∀ H M, Tk K H1 H → RelM K H M → keep M → J.stop items.length H
abbrev TIp := PSt → PHp → (List PV → (PHp → Prop) → PHp → Prop) → Prop
def concI (K : Kf) (H0 : Hp) (w : TIp) : TI := fun σ H R => ∃ σp M Rp, Tk K H0 H ∧ RelS K H σp σ ∧ RelM K H M ∧ w σp M Rp ∧ ∀ J H' items keep M', Tk K H H' → RelM K H' M' → ItR K H' J items keep → Rp items keep M' → R J H'
abbrev PIp' (X : Cx) (H0 : Hp) (tg iter : Expr) (w : TIp) : Prop := PI X tg iter (concI X.K H0 w)
theorem piW {tg iter : Expr} {t t' : TI} (h : PI X tg iter t) (w : ∀ σ H R, t' σ H R → t σ H R) : PI X tg iter t' := ⟨fun pins s σ H R I q => h.run pins s σ H R I (w _ _ _ q)⟩
theorem itr_list {H1 : Hp} {a : Addr} {l : List PV} : ItR K H1 (Itl K a) l (fun M => rdL K M a l) where
  go := fun i H M t m k hi => by
    obtain ⟨vs, e, r⟩ := k.to m
    have h2 : i < vs.length := by rw [← r.length]; exact hi
    exact ⟨vs, vs[i], e, by simp [h2]⟩
  yld := fun i H M x H' t m k hi y => by
    obtain ⟨e, y⟩ := y
    subst e
    obtain ⟨vs, e, r⟩ := k.to m
    obtain ⟨v, h2, r2⟩ := r.get (List.getElem?_eq_getElem hi)
    have := y vs e
    rw [h2] at this
    cases this
    exact ⟨_, List.getElem?_eq_getElem hi, r2, Tk.refl _ _, fun _ h => h⟩
  stop := fun H M t m k => by
    obtain ⟨vs, e, r⟩ := k.to m
    exact ⟨vs, e, by rw [r.length]; exact Nat.le_refl _⟩
theorem itr_tup {H1 : Hp} {a : Addr} {l : List PV} {vs : List V} (h : SqX K H1 a vs) (r0 : Reps K H1 l vs) : ItR K H1 (Itt K a) l (fun _ => True) where
  go := fun i H M t m k hi => by
    have h2 : i < vs.length := by rw [← r0.length]; exact hi
    exact ⟨vs, vs[i], (t _ _ h).t, by simp [h2]⟩
  yld := fun i H M x H' t m k hi y => by
    obtain ⟨e, y⟩ := y
    subst e
    obtain ⟨v, h2, r2⟩ := (r0.mono t).get (List.getElem?_eq_getElem hi)
    have := y vs (t _ _ h).t
    rw [h2] at this
    cases this
    exact ⟨_, List.getElem?_eq_getElem hi, r2, Tk.refl _ _, fun _ h => h⟩
  stop := fun H M t m k => ⟨vs, (t _ _ h).t, by rw [r0.length]; exact Nat.le_refl _⟩
def signs (z : Str) : List PV := z.cps.toList.map fun c => PV.str ⟨#[c]⟩
theorem itr_str {H1 : Hp} {z : Str} : ItR K H1 (Its z) (signs z) (fun _ => True) where
  go := fun i H M t m k hi => by
    unfold signs at hi
    rw [List.length_map] at hi
    exact hi
  yld := fun i H M x H' t m k hi y => by
    obtain ⟨e, c, h1, h2⟩ := y
    subst e; subst h2
    refine ⟨.str ⟨#[c]⟩, ?_, .str _, Tk.refl _ _, fun _ h => h⟩
    unfold signs
    rw [List.getElem?_map, Array.getElem?_toList, h1]
    rfl
  stop := fun H M t m k => by
    show z.cps.size ≤ (signs z).length
    unfold signs
    rw [List.length_map]
    exact Nat.le_refl _
/-- a value that is walked -/
def IterR (X : Cx) (tg : Expr) (wi : V → Hp → (It → Hp → Prop) → Prop) : Prop := ∀ (pins : List (Addr × Obj)) (s : Shared) (σ : L2.St) (H : Hp) (R : It → Hp → Prop) (x : V) (v : Value), Inv X pins σ H s → RelV x v → wi x H R →
  wpAny (model X.prog X.w) X.A (pyIter v) (PIE X pins σ tg R) X.xe s
theorem ir_list {tg : Expr} : IterR X tg (fun x H R => ∃ a, x = .ref a ∧ (∃ xs, SqL X.K H a xs) ∧ R (Itl X.K a) H) := by
  rintro pins t σ G R y v I rel ⟨a, rfl, ⟨_, there⟩, q⟩
  cases rel
  obtain ⟨_, _, plain, _⟩ := I.list there
  exact wpAny_pyIter_list plain.isList (pi_one (tk := t.toks) I _ (turn_list a _) ⟨_, Heap.get?_push_size _ rfl, rfl, rfl⟩ q)
theorem ir_tup {tg : Expr} : IterR X tg (fun x H R => ∃ a, x = .ref a ∧ (∃ xs, SqT X.K H a xs) ∧ R (Itt X.K a) H) := by
  rintro pins t σ G R y v I rel ⟨a, rfl, ⟨_, there⟩, q⟩
  cases rel
  obtain ⟨_, _, plain, _⟩ := I.tuple there
  exact wpAny_pyIter_tuple plain (pi_one (tk := t.toks) I _ (turn_tuple a _) ⟨_, Heap.get?_push_size _ rfl, rfl, rfl⟩ q)
theorem ir_str {tg : Expr} : IterR X tg (fun v H R => ∃ x, v = .str x ∧ R (Its x) H) := by
  rintro pins t σ G R y v I rel ⟨z, rfl, q⟩
  obtain ⟨tk, rfl⟩ := rel
  by_cases small : z.cps.all (· < 128) = true
  · exact wpAny_pyIter_ascii small (pi_one (tk := t.toks) I _ (turn_str _ z tk _ (.inl rfl)) ⟨_, Heap.get?_push_size _ rfl, rfl, rfl⟩ q)
  · exact wpAny_pyIter_wide (Bool.not_eq_true _ ▸ small) (pi_one (tk := t.toks) I _ (turn_str _ z tk _ (.inr rfl)) ⟨_, Heap.get?_push_size _ rfl, rfl, rfl⟩ q)
/-- over a list, a tuple, a text -/
@[reducible] def iSeq (K : Kf) (te : TEp) : TIp := fun σ M R => te σ M fun x M1 => match x with
  | .tup l => R l (fun _ => True) M1
  | .ref a => ∃ l, rdL K M1 a l ∧ R l (fun M => rdL K M a l) M1
  | .str z => R (signs z) (fun _ => True) M1
  | _ => False
theorem piseq {tg e : Expr} {te : TEp} (h : PEp X H0 e te) : PIp' X H0 tg e (iSeq X.K te) := by
  refine ⟨fun pins s σ H R I q => ?_⟩
  obtain ⟨σp, M, Rp, t, s0, m, u, k⟩ := q
  refine thn (h.run pins s σ H (fun x H1 => ∃ px M1, Tk X.K H H1 ∧ RelM X.K H1 M1 ∧ Rep X.K H1 px x ∧ (match px with
      | .tup l => Rp l (fun _ => True) M1
      | .ref a => ∃ l, rdL X.K M1 a l ∧ Rp l (fun M => rdL X.K M a l) M1
      | .str z => Rp (signs z) (fun _ => True) M1
      | _ => False)) I ⟨σp, M, _, t, s0, m, u, fun x H1 px M1 t1 m1 rx u1 => ⟨px, M1, t1, m1, rx, u1⟩⟩) fun v s1 z => ?_
  obtain ⟨x, H1, I1, rv, px, M1, t1, m1, rx, u1⟩ := z
  cases rx with
  | tup h r => exact ir_tup pins s1 σ H1 R _ v I1 rv ⟨_, rfl, ⟨_, h.t⟩, k _ _ _ _ _ t1 m1 (itr_tup h r) u1⟩
  | ref a =>
    obtain ⟨l, hl, q⟩ := u1
    obtain ⟨vs, e, r⟩ := hl.to m1
    exact ir_list pins s1 σ H1 R _ v I1 rv ⟨_, rfl, ⟨_, e⟩, k _ _ _ _ _ t1 m1 itr_list q⟩
  | str z => exact ir_str pins s1 σ H1 R _ v I1 rv ⟨_, rfl, k _ _ _ _ _ t1 m1 itr_str u1⟩
  | _ => exact u1.elim
/-- range(n), range(a, b) -/
def rng (lo : Int) (n : Nat) : List PV := (List.range n).map fun (i : Nat) => PV.int (lo + (i : Int))
theorem rng_len (lo : Int) (n : Nat) : (rng lo n).length = n := by unfold rng; simp
theorem rng_get {lo : Int} {n i : Nat} {p : PV} (h : (rng lo n)[i]? = some p) : i < n ∧ p = .int (lo + (i : Int)) := by
  unfold rng at h
  rw [List.getElem?_map] at h
  by_cases hi : i < n
  · rw [List.getElem?_range hi] at h
    exact ⟨hi, (Option.some.inj h).symm⟩
  · rw [List.getElem?_eq_none (by simp; omega)] at h
    cases h
theorem itr_rng {H1 : Hp} {lo : Int} {n : Nat} : ItR K H1 (Itr lo n) (rng lo n) (fun _ => True) where
  go := fun i H M t m k hi => by rw [rng_len] at hi; exact hi
  yld := fun i H M x H' t m k hi y => by
    rw [rng_len] at hi
    obtain ⟨e, y⟩ := y
    subst e; subst y
    exact ⟨.int (lo + (i : Int)), by unfold rng; rw [List.getElem?_map, List.getElem?_range hi]; rfl, .int _, Tk.refl _ _, fun _ h => h⟩
  stop := fun H M t m k => by rw [rng_len]; exact Nat.le_refl _
@[reducible] def iRng1 (ta : TAp) : TIp := fun σ M R => ta σ M fun vs M1 => match vs with
  | [.int j] => (-(2 ^ 62) ≤ j ∧ j < 2 ^ 62) ∧ R (rng 0 j.toNat) (fun _ => True) M1
  | _ => False
@[reducible] def iRng2 (ta : TAp) : TIp := fun σ M R => ta σ M fun vs M1 => match vs with
  | [.int i, .int j] => (-(2 ^ 62) ≤ i ∧ i < 2 ^ 62 ∧ -(2 ^ 62) ≤ j ∧ j < 2 ^ 62) ∧ R (rng i (j - i).toNat) (fun _ => True) M1
  | _ => False
theorem pirng1 {tg a : Expr} {ta : TAp} {p : Pos} (hg : Gl X "range") (hm : X.mg "range" = none) (ha : PAp X H0 [a] ta) (hs : starEach [a] X.env = [(false, eval a X.env)] := by rfl) : PIp' X H0 tg (.Call (.Name "range" p) [a] [] pos) (iRng1 ta) :=
  piW (pi_range1 hg hm ha hs) fun σ H R ⟨σp, M, Rp, t, s, m, u, k⟩ => ⟨σp, M, _, t, s, m, u, fun vs H1 ps M1 t1 m1 rs u1 => by
    cases rs with
    | nil => exact u1.elim
    | cons r rr => cases rr with
      | nil => cases r with
        | int j => exact ⟨j, rfl, u1.1.1, u1.1.2, k _ _ _ _ _ t1 m1 itr_rng u1.2⟩
        | _ => exact u1.elim
      | cons r2 rr2 => cases r <;> exact u1.elim⟩
theorem pirng2 {tg a b : Expr} {ta : TAp} {p : Pos} (hg : Gl X "range") (hm : X.mg "range" = none) (ha : PAp X H0 [a, b] ta) (hs : starEach [a, b] X.env = [(false, eval a X.env), (false, eval b X.env)] := by rfl) (hs2 : starEach [b] X.env = [(false, eval b X.env)] := by rfl) : PIp' X H0 tg (.Call (.Name "range" p) [a, b] [] pos) (iRng2 ta) :=
  piW (pi_range2 hg hm ha hs hs2) fun σ H R ⟨σp, M, Rp, t, s, m, u, k⟩ => ⟨σp, M, _, t, s, m, u, fun vs H1 ps M1 t1 m1 rs u1 => by
    cases rs with
    | nil => exact u1.elim
    | cons r rr => cases rr with
      | nil => cases r <;> exact u1.elim
      | cons r2 rr2 => cases rr2 with
        | nil => cases r with
          | int i => cases r2 with
            | int j => exact ⟨i, j, rfl, u1.1, k _ _ _ _ _ t1 m1 itr_rng u1.2⟩
            | _ => exact u1.elim
          | _ => cases r2 <;> exact u1.elim
        | cons _ _ => cases r <;> cases r2 <;> exact u1.elim⟩

/-! ### for, while -/
/-- some slots forgotten, some objects let go -/
def Nx (P : PSt → PHp → Prop) : PSt → PHp → Prop := fun σ M => ∃ σ0 M0, SubS σ0 σ ∧ Sub M0 M ∧ P σ0 M0
theorem Nx.of {P : PSt → PHp → Prop} {σ : PSt} {M : PHp} (h : P σ M) : Nx P σ M := ⟨σ, M, .refl _, .refl _, h⟩
@[reducible] def tFor (wi : TIp) (g : TGp) (tb : TSp) : TSp := fun D σ M => wi σ M fun items keep M1 => ∃ I : Nat → PSt → PHp → Prop, Nx (I 0) σ M1 ∧ (∀ i σ M, I i σ M → keep M) ∧
  (∀ i x σ M, items[i]? = some x → I i σ M → g x σ M fun σ2 M2 => tb { nx := Nx (I (i + 1)), ct := Nx (I (i + 1)), bk := D.nx, rt := D.rt } σ2 M2) ∧ ∀ σ M, I items.length σ M → D.nx σ M
theorem psfor {iter tg : Expr} {body : List Stmt} {wi : TIp} {g : TGp} {tb : TSp} (hp : PassesOwn (model X.prog X.w) X.A X.env X.xe) (hc : X.calm = true) (hi : PIp' X H0 tg iter wi) (hg : PGp X H0 tg g) (hb : PSsp X H0 body tb) (hs : ∀ x, foldedSetIterable iter X.env x = pure x := by intro _; rfl) :
    PSp' X H0 (.For tg iter body [] pos) (tFor wi g tb) := by
  refine psW (ps_for hp hc hi hg hb hs) fun D σ H ⟨σp, M, Dp, t, s, m, u, k⟩ => ⟨σp, M, _, t, s, m, u, fun J H1 items keep M1 t1 m1 it u1 => ?_⟩
  obtain ⟨I, h0, hk, hs, hd⟩ := u1
  obtain ⟨σ00, M00, ss0, sm0, h0⟩ := h0
  refine ⟨fun i n σ' H' => n = items.length - i ∧ i ≤ items.length ∧ ∃ σq Mq, Tk X.K H1 H' ∧ RelS X.K H' σq σ' ∧ RelM X.K H' Mq ∧ I i σq Mq, ⟨_, rfl, Nat.zero_le _, σ00, M00, Tk.refl _ _, (s.mono t1).sub ss0, m1.sub sm0, h0⟩, ?_⟩
  rintro i n σ' H' ⟨rfl, hi, σq, Mq, tq, sq, mq, hI⟩
  by_cases hlt : i < items.length
  · refine .inr ⟨it.go i H' Mq tq mq (hk _ _ _ hI) hlt, fun σ2 H2 => i + 1 ≤ items.length ∧ ∃ σq Mq, Tk X.K H1 H2 ∧ RelS X.K H2 σq σ2 ∧ RelM X.K H2 Mq ∧ I (i + 1) σq Mq, fun σ2 H2 h => ⟨items.length - (i + 1), by omega, rfl, h.1, h.2⟩, fun x H2 y => ?_⟩
    obtain ⟨p, e1, r1, t2, mm⟩ := it.yld i H' Mq x H2 tq mq (hk _ _ _ hI) hlt y
    refine ⟨p, σq, Mq, _, t.trans (t1.trans (tq.trans t2)), r1, sq.mono t2, mm _ mq, hs i p σq Mq e1 hI, fun σ3 H3 σp3 M3 t3 s3 m3 u3 => ?_⟩
    refine ⟨σp3, M3, _, t.trans (t1.trans (tq.trans (t2.trans t3))), s3, m3, u3, ⟨fun σ4 H4 σp4 M4 t4 s4 m4 u4 => ?_, fun v H4 p4 M4 t4 => k.rt v H4 p4 M4 (t1.trans (tq.trans (t2.trans (t3.trans t4)))), fun σ4 H4 p4 M4 t4 => k.nx σ4 H4 p4 M4 (t1.trans (tq.trans (t2.trans (t3.trans t4)))), fun σ4 H4 σp4 M4 t4 s4 m4 u4 => ?_⟩⟩
    all_goals
      obtain ⟨σ0, M0, ss, sm, hI2⟩ := u4
      exact ⟨hlt, σ0, M0, tq.trans (t2.trans (t3.trans t4)), s4.sub ss, m4.sub sm, hI2⟩
  · have e : i = items.length := by omega
    subst e
    exact .inl ⟨it.stop H' Mq tq mq (hk _ _ _ hI), k.nx _ _ _ _ (t1.trans tq) sq mq (hd _ _ hI)⟩
@[reducible] def tWhile (c : TTp) (tb : TSp) : TSp := fun D σ M => ∃ W : Nat → PSt → PHp → Prop, (∃ n, Nx (W n) σ M) ∧ ∀ n σ M, W n σ M →
  c σ M fun b M1 => br b (tb { nx := fun σ' M' => ∃ n', n' < n ∧ Nx (W n') σ' M', ct := fun σ' M' => ∃ n', n' < n ∧ Nx (W n') σ' M', bk := D.nx, rt := D.rt } σ M1) (D.nx σ M1)
theorem pswhile {c : Expr} {body : List Stmt} {tc : TTp} {tb : TSp} (hp : PassesOwn (model X.prog X.w) X.A X.env X.xe) (hc : PTp X H0 c tc) (hb : PSsp X H0 body tb) : PSp' X H0 (.While c body [] pos) (tWhile tc tb) := by
  refine psW (ps_while hp hc hb) fun D σ H ⟨σp, M, Dp, t, s, m, u, k⟩ => ?_
  obtain ⟨W, ⟨n0, h0⟩, hs⟩ := u
  obtain ⟨σ00, M00, ss0, sm0, h0⟩ := h0
  refine ⟨fun n σ' H' => ∃ σq Mq, Tk X.K H H' ∧ RelS X.K H' σq σ' ∧ RelM X.K H' Mq ∧ W n σq Mq, ⟨n0, σ00, M00, Tk.refl _ _, s.sub ss0, m.sub sm0, h0⟩, ?_⟩
  rintro n σ' H' ⟨σq, Mq, tq, sq, mq, hW⟩
  refine ⟨σq, Mq, _, t.trans tq, sq, mq, hs n σq Mq hW, fun b H2 M2 t2 m2 u2 => br_imp u2 (fun q => ?_) fun q => k.nx _ _ _ _ (tq.trans t2) (sq.mono t2) m2 q⟩
  refine ⟨fun σ3 H3 => ∃ n', n' < n ∧ ∃ σq Mq, Tk X.K H H3 ∧ RelS X.K H3 σq σ3 ∧ RelM X.K H3 Mq ∧ W n' σq Mq, fun σ3 H3 h => h, σq, M2, _, t.trans (tq.trans t2), sq.mono t2, m2, q, ⟨fun σ4 H4 σp4 M4 t4 s4 m4 u4 => ?_, fun v H4 p4 M4 t4 => k.rt v H4 p4 M4 (tq.trans (t2.trans t4)), fun σ4 H4 p4 M4 t4 => k.nx σ4 H4 p4 M4 (tq.trans (t2.trans t4)), fun σ4 H4 σp4 M4 t4 s4 m4 u4 => ?_⟩⟩
  all_goals
    obtain ⟨n', hn, σ0, M0, ss, sm, h2⟩ := u4
    exact ⟨n', hn, σ0, M0, tq.trans (t2.trans t4), s4.sub ss, m4.sub sm, h2⟩

/-! ### defs and their calls -/
abbrev PSpec := List PV → PHp → PVK → PXK → Prop
def concF (K : Kf) (psp : PSpec) : Sp := fun vs H Q E => ∃ ps M Qp Ep, Reps K H ps vs ∧ RelM K H M ∧ psp ps M Qp Ep ∧ (∀ v H' p M', Tk K H H' → RelM K H' M' → Rep K H' p v → Qp p M' → Q v H') ∧ ∀ cls d H' M', Tk K H H' → RelM K H' M' → Ep cls d M' → E cls d H'
/-- a def that may be called -/
structure Callee (P : Program) (w : World) (K : Kf) (mg : Str → Option Value) (base : Heap) (k : Nat) (x : Str) (ps : List Str) (psp : PSpec) : Prop where
  ex : ∃ f fd, FnOk P w K mg base CX0 k f fd ps (concF K psp) ∧ mg x = some (.ref f) ∧ PySem.W.keepIn K (.ref f) = true ∧ Binds K fd ps []
theorem Callee.mono {P : Program} {w : World} {mg : Str → Option Value} {base : Heap} {j k : Nat} {x : Str} {ps : List Str} {psp : PSpec} (h : Callee P w K mg base j x ps psp) (l : j ≤ k) : Callee P w K mg base k x ps psp := by
  obtain ⟨f, fd, F, r⟩ := h.ex
  exact ⟨⟨f, fd, F.mono l, r⟩⟩
theorem Callee.imp {P : Program} {w : World} {mg : Str → Option Value} {base : Heap} {k : Nat} {x : Str} {ps : List Str} {psp psp' : PSpec} (h : Callee P w K mg base k x ps psp) (l : ∀ vs M Q E, psp' vs M Q E → psp vs M Q E) : Callee P w K mg base k x ps psp' := by
  obtain ⟨f, fd, F, r⟩ := h.ex
  exact ⟨⟨f, fd, F.imp fun vs H Q E ⟨ps, M, Qp, Ep, h1, h2, h3, h4⟩ => ⟨ps, M, Qp, Ep, h1, h2, l _ _ _ _ h3, h4⟩, r⟩⟩
@[reducible] def tCall (psp : PSpec) (ta : TAp) : TEp := fun σ M Q => ta σ M fun ps M1 => psp ps M1 Q fun _ _ _ => False
variable {e : Expr} {es : List Expr} {te : TEp} {ta : TAp}
theorem call_conc {psp : PSpec} {σ : L2.St} {H : Hp} {Q : VK} (h : concE K H0 (tCall psp ta) σ H Q) : L2.tCall (concF K psp) [] E0 (concA K H0 ta) σ H Q := by
  obtain ⟨σp, M, Qp, t, s, m, u, k⟩ := h
  refine ⟨σp, M, _, t, s, m, u, fun vs H1 ps M1 t1 m1 rs u1 => ?_⟩
  show concF K psp (vs ++ []) H1 Q E0
  rw [List.append_nil]
  exact ⟨ps, M1, Qp, _, rs, m1, u1, fun v H2 p M2 t2 => k v H2 p M2 (t1.trans t2), fun _ _ _ _ _ _ z => z⟩
theorem pcall {k : Nat} {x : Str} {ps : List Str} {psp : PSpec} {p : Pos} (C : Callee X.prog X.w X.K X.mg X.base k x ps psp) (hr : Room k X.A) (ha : PAp X H0 (e :: es) ta) (hg : Gl X x := by rfl) (hd : (x == ("__debug__" : Str)) = false := by decide)
    (he : starEach (e :: es) X.env = (false, eval e X.env) :: starEach es X.env := by rfl) (hpl : (backTo pos (starEach es X.env)).any (·.1) = false := by rfl) : PEp X H0 (.Call (.Name x p) (e :: es) [] pos) (tCall psp ta) := by
  obtain ⟨f, fd, F, hm, hk, hb⟩ := C.ex
  exact peW (pe_call F hr hg hm hk hb .nil pass0 ha hd he hpl) fun σ H Q h => call_conc h
theorem pcall0 {k : Nat} {x : Str} {psp : PSpec} {p : Pos} (C : Callee X.prog X.w X.K X.mg X.base k x [] psp) (hr : Room k X.A) (hg : Gl X x := by rfl) (hd : (x == ("__debug__" : Str)) = false := by decide) : PEp X H0 (.Call (.Name x p) [] [] pos) (tCall psp tNil) := by
  obtain ⟨f, fd, F, hm, hk, hb⟩ := C.ex
  refine peW (pe_call0 F hr hg hm hk hb .nil pass0 hd) fun σ H Q ⟨σp, M, Qp, t, s, m, u, k⟩ => ?_
  exact ⟨[], M, Qp, _, .nil, m, u, k, fun _ _ _ _ _ _ z => z⟩
/-- where a def of the text stands -/
structure Here (K : Kf) (mg : Str → Option Value) (x : Str) (st : Stmt) (ps : List Str) : Prop where
  ex : ∃ f fd, Fun K x x st f fd ∧ mg x = some (.ref f) ∧ Binds K fd ps []
def startP (N : List Str) (vs : List PV) : PSt := vs.map some ++ List.replicate (N.length - vs.length) none
theorem startP_rel {H : Hp} : ∀ {ps : List PV} {vs : List V}, Reps K H ps vs → ∀ N : List Str, RelS K H (startP N ps) (L2.start N vs) := by
  intro ps vs r N
  unfold startP L2.start
  rw [r.length]
  have tail : ∀ n : Nat, RelS K H (List.replicate n none) (List.replicate n none) := fun n => by
    induction n with
    | zero => exact .nil
    | succ n ih => exact .no ih
  generalize N.length - vs.length = n
  induction r using Reps.rec (motive_1 := fun _ _ _ => True) with
  | nil => exact tail n
  | cons a b _ ih => exact .yes a ih
  | _ => trivial
def ends (Q : PVK) : PEnds := { nx := fun _ M' => ∃ M0, Sub M0 M' ∧ Q .non M0, rt := fun v M' => ∃ M0, Sub M0 M' ∧ Q v M0 }
abbrev defCx (P : Program) (w : World) (K : Kf) (mg : Str → Option Value) (base : Heap) (N : List Str) (x : Str) (st : Stmt) (f : Addr) (cdv : Value) (A : Around) (outer : List Env) (s : Shared) (H : Hp) (E : XK) : Cx :=
  (cxOf CX0 P w K mg base N x (defScope st) f cdv A outer s H E).nox
theorem ok_of {P : Program} {w : World} {mg : Str → Option Value} {base : Heap} {k : Nat} {x : Str} {st : Stmt} {N ps : List Str} {psp : PSpec} (h : Here K mg x st ps) (S : FnScope N ps (defScope st)) (len : ∀ vs M Q E, psp vs M Q E → vs.length = ps.length)
    (body : ∀ f cdv A outer s H E, Room k (defCx P w K mg base N x st f cdv A outer s H E).A → ∃ t, PSsp (defCx P w K mg base N x st f cdv A outer s H E) H (defBody st) t ∧ ∀ vs M Q Ep, psp vs M Q Ep → t (ends Q) (startP N vs) M) :
    Callee P w K mg base (k + 1) x ps psp := by
  obtain ⟨f, fd, F, hm, hb⟩ := h.ex
  refine ⟨⟨f, fd, F.ok S (fun vs H Q E h => ?_) (fun cdv A outer s H vs Q E hr h => ?_), hm, F.kp, hb⟩⟩
  · obtain ⟨qs, M, Qp, Ep, r, m, u, _⟩ := h
    rw [← r.length]
    exact len _ _ _ _ u
  · obtain ⟨qs, M, Qp, Ep, r, m, u, k1, k2⟩ := h
    obtain ⟨t, d, b⟩ := body f cdv A outer s H E hr
    refine ⟨_, d, startP N qs, M, ends Qp, Tk.refl _ _, startP_rel r N, m, b _ _ _ _ u, ⟨fun σ' H' σp' M' t1 s1 m1 q => ?_, fun v H' p M' t1 m1 r1 q => ?_, fun _ _ _ _ _ _ _ z => z.elim, fun _ _ _ _ _ _ _ z => z.elim⟩⟩
    · obtain ⟨M0, sb, q⟩ := q
      exact k1 _ _ _ _ t1 (m1.sub sb) .non q
    · obtain ⟨M0, sb, q⟩ := q
      exact k1 _ _ _ _ t1 (m1.sub sb) r1 q
end
end PL

set_option Elab.async false
set_option linter.all false
set_option maxRecDepth 100000
set_option maxHeartbeats 2000000
/-! PL5: comprehensions, max, methods of lists. -/
namespace PL
open PySem L2
section
variable {X : Cx} {H0 : Hp} {pos : Pos} {K : Kf}
/-! ### comprehensions -/
def wipeP (σ : PSt) : List Nat → PSt
  | [] => σ
  | i :: r => (wipeP σ r).set i none
theorem RelS.wipe1 {H : Hp} : ∀ {σ : PSt} {τ : L2.St} (i : Nat), RelS K H σ τ → RelS K H (σ.set i none) (τ.set i none)
  | _, _, _, .nil => .nil
  | _, _, 0, .no t => .no t
  | _, _, 0, .yes _ t => .no t
  | _, _, i + 1, .no t => .no (RelS.wipe1 i t)
  | _, _, i + 1, .yes q t => .yes q (RelS.wipe1 i t)
theorem RelS.wipe {H : Hp} {σ : PSt} {τ : L2.St} (s : RelS K H σ τ) : ∀ vs : List Nat, RelS K H (wipeP σ vs) (L2.wipe τ vs)
  | [] => s
  | i :: r => (RelS.wipe s r).wipe1 i
/-- the tests of a comprehension -/
abbrev PTsp (X : Cx) (H0 : Hp) (ifs : List Expr) (u : TTp) : Prop := PTs X ifs (concT X.K H0 u)
@[reducible] def tYes : TTp := fun _ M Q => Q true M
theorem ptsnil : PTsp X H0 [] tYes := ⟨fun pins s σ H Q I ⟨_, M, _, _, _, m, u, k⟩ => pts_nil.run pins s σ H Q I (k true H M (Tk.refl _ _) m u)⟩
theorem ptsone {c : Expr} {t : TTp} (h : PTp X H0 c t) : PTsp X H0 [c] t := pts_one h
/-- what a turn gives: Dl the list that grows -/
@[reducible] def LcTurn (vs : List Nat) (σ0 : PSt) (tt : TTp) (te : TEp) (Dl : Addr) (acc : List PV) (I : List PV → PHp → Prop) : PSt → PHp → Prop := fun σ2 M2 => tt σ2 M2 fun b M3 => br b (te σ2 M3 fun y M4 => M4 Dl = some (.lst acc) ∧ acc.length < sizeLine ∧ ∃ M5, Sub M5 (updM M4 Dl (.lst (acc ++ [y]))) ∧ I (acc ++ [y]) M5) (∃ M5, Sub M5 M3 ∧ I acc M5)
/-- I: by the turn, the list so far and the heap; the list stands at Dl -/
@[reducible] def tLc1 (wi : TIp) (j : Nat) (tt : TTp) (te : TEp) (vs : List Nat) : TEp := fun σ M Q => wi σ M fun items keep M1 => ∀ Dl, M1 Dl = none → ∃ I : Nat → List PV → PHp → Prop, (∃ M5, Sub M5 (updM M1 Dl (.lst [])) ∧ I 0 [] M5) ∧
  (∀ i acc M, I i acc M → keep M) ∧ (∀ i x acc M, items[i]? = some x → I i acc M → LcTurn vs σ tt te Dl acc (I (i + 1)) ((wipeP σ vs).set j (some x)) M) ∧ ∀ acc M, I items.length acc M → Q (.ref Dl) M
theorem wipe_set (σ : L2.St) (j : Nat) (x : Option V) : ∀ vs : List Nat, j ∈ vs → L2.wipe (σ.set j x) vs = L2.wipe σ vs
  | [], h => by cases h
  | i :: r, h => by
    show (L2.wipe (σ.set j x) r).set i none = (L2.wipe σ r).set i none
    by_cases hj : j ∈ r
    · rw [wipe_set σ j x r hj]
    · have e : j = i := by rcases List.mem_cons.mp h with h | h; exact h; exact absurd h hj
      subst e
      have key : ∀ (r : List Nat) (σ : L2.St), j ∉ r → L2.wipe (σ.set j x) r = (L2.wipe σ r).set j x := by
        intro r
        induction r with
        | nil => intro σ _; rfl
        | cons a r ih =>
          intro σ hn
          have n1 : j ≠ a := fun q => hn (q ▸ List.mem_cons_self)
          have n2 : j ∉ r := fun q => hn (List.mem_cons_of_mem _ q)
          show (L2.wipe (σ.set j x) r).set a none = ((L2.wipe σ r).set a none).set j x
          rw [ih σ n2, List.set_comm _ _ n1]
      rw [key r σ hj, List.set_set]
theorem wipe_wipe (σ : L2.St) (vs : List Nat) : L2.wipe (L2.wipe σ vs) vs = L2.wipe σ vs := by
  apply List.ext_getElem?
  intro i
  by_cases hi : i ∈ vs
  · have h : ∀ (τ : L2.St), τ.length = σ.length → (L2.wipe τ vs)[i]? = if i < σ.length then some none else none := by
      intro τ hτ
      have key : ∀ (r : List Nat), i ∈ r → (L2.wipe τ r)[i]? = if i < τ.length then some none else none := by
        intro r
        induction r with
        | nil => intro h; cases h
        | cons a r ih =>
          intro h
          show ((L2.wipe τ r).set a none)[i]? = _
          rw [List.getElem?_set, L2.wipe_length]
          by_cases e : a = i
          · subst e; rw [if_pos rfl]
          · rw [if_neg e]
            exact ih (by rcases List.mem_cons.mp h with q | q; exact absurd q.symm e; exact q)
      rw [key vs hi, hτ]
    rw [h _ (L2.wipe_length σ vs), h σ rfl]
  · rw [L2.wipe_out hi]
/-- one name for the target -/
theorem lc1_conc {j : Nat} {vs : List Nat} {wi : TIp} {tt : TTp} {te : TEp} (hj : j ∈ vs) {σ : L2.St} {H : Hp} {Q : VK} (h : concE K H0 (tLc1 wi j tt te vs) σ H Q) :
    L2.tLc (concI K H0 wi) (L2.gName j) (concT K H0 tt) (concE K H0 te) vs σ H Q := by
  obtain ⟨σp, M, Qp, t, s, m, u, k⟩ := h
  refine ⟨σp, M, _, t, s, m, u, fun J H1 items keep M1 t1 m1 it u1 Dl hD => ?_⟩
  obtain ⟨I, ⟨M50, sb0, h0⟩, hk, hs, hd⟩ := u1 Dl (m1.fresh hD)
  have tn : Tk K H1 (upd H1 Dl (.lst [])) := .new hD
  have mn : RelM K (upd H1 Dl (.lst [])) (updM M1 Dl (.lst [])) := m1.put (m := .lst []) tn ⟨[], upd_same, .nil⟩
  refine ⟨fun i n H' => n = items.length - i ∧ i ≤ items.length ∧ ∃ acc Mq, Tk K H1 H' ∧ RelM K H' Mq ∧ I i acc Mq, ⟨_, rfl, Nat.zero_le _, [], M50, tn, mn.sub sb0, h0⟩, ?_⟩
  rintro i n H' ⟨rfl, hi, acc, Mq, tq, mq, hI⟩
  by_cases hlt : i < items.length
  · refine .inr ⟨it.go i H' Mq tq mq (hk _ _ _ hI) hlt, fun H2 => i + 1 ≤ items.length ∧ ∃ acc Mq, Tk K H1 H2 ∧ RelM K H2 Mq ∧ I (i + 1) acc Mq, fun H2 h => ⟨items.length - (i + 1), by omega, rfl, h.1, h.2⟩, fun x H2 y => ?_⟩
    obtain ⟨p, e1, r1, t2, mm⟩ := it.yld i H' Mq x H2 tq mq (hk _ _ _ hI) hlt y
    have hw : L2.wipe ((L2.wipe σ vs).set j (some x)) vs = L2.wipe σ vs := by
      rw [wipe_set _ _ _ _ hj, wipe_wipe]
    refine ⟨hw, (wipeP σp vs).set j (some p), Mq, _, t.trans (t1.trans (tq.trans t2)), ((s.mono (t1.trans (tq.trans t2))).wipe _).set r1 j, mm _ mq, hs i p acc Mq e1 hI, fun b H3 M3 t3 m3 u3 => br_imp u3 (fun q => ?_) fun q => ?_⟩
    · refine ⟨_, M3, _, t.trans (t1.trans (tq.trans (t2.trans t3))), ((s.mono (t1.trans (tq.trans (t2.trans t3)))).wipe _).set (r1.mono t3) j, m3, q, fun v H4 p4 M4 t4 m4 r4 q4 => ?_⟩
      obtain ⟨q1, q2, M5, sb, q5⟩ := q4
      obtain ⟨vs4, e4, r5⟩ := m4 _ _ q1
      obtain ⟨tk, m6⟩ := Tk_set (l := acc) m4 e4 (r5.snoc r4)
      exact ⟨vs4, e4, by rw [← r5.length]; exact q2, hlt, _, M5, tq.trans (t2.trans (t3.trans (t4.trans tk))), m6.sub sb, q5⟩
    · obtain ⟨M5, sb, q5⟩ := q
      exact ⟨hlt, _, M5, tq.trans (t2.trans t3), m3.sub sb, q5⟩
  · have e : i = items.length := by omega
    subst e
    exact .inl ⟨it.stop H' Mq tq mq (hk _ _ _ hI), k _ _ _ _ (t1.trans tq) mq (.ref Dl) (hd _ _ hI)⟩
section
variable {elt iter : Expr} {x : Str} {xpos : Pos} {ifs : List Expr} {scope : Scope} {own : List (Str × Nat)} {wi : TIp} {tt : TTp} {te : TEp}
theorem plc1 (j : Nat) (hc : X.calm = true) (hN : X.N.Nodup) (hi : PIp' X H0 (.Name x xpos) iter wi) (ok : BlkOk X.N X.env.scope scope own) (hj : j ∈ own.map (·.2))
    (hg : ∀ (s : Shared) (H : Hp) (C : Addr) (cl : List (Str × Addr)) (fp : List Addr), PG (X.blk s H scope (compEnvC scope cl C X.env) fp) (.Name x xpos) (L2.gName j))
    (ht : ∀ (s : Shared) (H : Hp) (C : Addr) (cl : List (Str × Addr)) (fp : List Addr), PTsp (X.blk s H scope (compEnvC scope cl C X.env) fp) H0 ifs tt)
    (he : ∀ (s : Shared) (H : Hp) (C : Addr) (cl : List (Str × Addr)) (fp : List Addr), PEp (X.blk s H scope (compEnvC scope cl C X.env) fp) H0 elt te) (hs : ∀ x, foldedSetIterable iter X.env x = pure x := by intro _; rfl) :
    PEp X H0 (.ListComp elt [⟨.Name x xpos, iter, ifs, 0⟩] scope pos) (tLc1 wi j tt te (own.map (·.2))) :=
  peW (pe_lc (tt := concT X.K H0 tt) (te := concE X.K H0 te) hc hN hi ok hg ht he hs) fun σ H Q h => lc1_conc hj h
/-- y = [..] on one line -/
theorem pssetlc1 (i j : Nat) {y : Str} {py spos : Pos} (hc : X.calm = true) (hN : X.N.Nodup) (hyl : X.env.scope.names.lookup y = some .local)
    (hsw : swapsWith (.ListComp elt [⟨.Name x xpos, iter, ifs, 0⟩] scope pos) (some (.Name y py)) spos.line X.env = pure true) (hi : PIp' X H0 (.Name x xpos) iter wi) (ok : BlkOk X.N X.env.scope scope own) (hj : j ∈ own.map (·.2))
    (hg : ∀ (s : Shared) (H : Hp) (C : Addr) (cl : List (Str × Addr)) (fp : List Addr), PG (X.blk s H scope (compEnvC scope cl C X.env) fp) (.Name x xpos) (L2.gName j))
    (ht : ∀ (s : Shared) (H : Hp) (C : Addr) (cl : List (Str × Addr)) (fp : List Addr), PTsp (X.blk s H scope (compEnvC scope cl C X.env) fp) H0 ifs tt)
    (he : ∀ (s : Shared) (H : Hp) (C : Addr) (cl : List (Str × Addr)) (fp : List Addr), PEp (X.blk s H scope (compEnvC scope cl C X.env) fp) H0 elt te) (hy : X.N[i]? = some y := by rfl) (hs : ∀ x, foldedSetIterable iter X.env x = pure x := by intro _; rfl) :
    PSp' X H0 (.Assign [.Name y py] (.ListComp elt [⟨.Name x xpos, iter, ifs, 0⟩] scope pos) spos) (tAsg (tLc1 wi j tt te (own.map (·.2))) (gName i)) :=
  psW (ps_setLc (tt := concT X.K H0 tt) (te := concE X.K H0 te) hc hN hy hyl hsw hi ok hg ht he hs) fun D σ H ⟨σp, M, Dp, t, s, m, u, k⟩ =>
    lc1_conc hj ⟨σp, M, _, t, s, m, u, fun v H1 p M1 t1 m1 r u1 => k.nx _ _ _ _ t1 ((s.mono t1).set r i) m1 u1⟩
end

end
end PL

set_option Elab.async false
set_option linter.all false
set_option maxRecDepth 100000
set_option maxHeartbeats 2000000
/-! PL6: max, min, sum; methods of lists; the end of a law. -/
namespace PLraw
open PySem PySem.Spec PySem.Calls PyProof.Rows
section
variable {prog : Program} {w : World} {A : Around} {E : Value → Shared → Prop} {s : Shared} {l : Addr} {us : List Value} {ms : List Int} {Q : Value → Shared → Prop}
/-- a tuple of whole numbers, as numbers with their tokens -/
theorem as_items (hl : s.heap.IsTuple l us.toArray) (hi : IntsAre us ms) : ∃ xs : Array (Int × Tok), s.heap.IsTuple l (intItems xs) ∧ numsOf (intItems xs).toList = ms := by
  obtain ⟨xs, q⟩ := hi.allInts.items
  exact ⟨xs, q ▸ hl, q ▸ hi.numsOf⟩
theorem sum_tup (hh : A.handled = none) (hl : s.heap.IsTuple l us.toArray) (hi : IntsAre us ms)
    (k : ∀ g tk t, (∀ b o, s.heap.get? b = some o → g.get? b = some o) → Q (.int ms.sum t) { s with heap := g, toks := tk }) : wpAny (model prog w) A (call (.builtin "sum") [.ref l]) Q E s := by
  obtain ⟨xs, ht, hn⟩ := as_items hl hi
  rw [nums_intItems] at hn
  exact PySem.W.ktm_sumG hh ht fun g tk t old => by
    have z := k g tk t old
    rwa [preSum_eq, List.take_of_length_le (by simp), hn]
/-- what an iterator over a tuple starts from -/
theorem starts {xs : Array Value} (ht : s.heap.IsTuple l xs) : l ≠ s.heap.objs.size ∧ ∀ (o : Obj) (b : Addr), b ∈ [s.heap.objs.size, l] → b < (s.heap.push o).objs.size := by
  obtain ⟨u, hu, _⟩ := ht
  have h := Heap.lt_size hu
  refine ⟨Nat.ne_of_lt h, fun o b hb => ?_⟩
  rw [Heap.size_push]
  have two : b = s.heap.objs.size ∨ b = l := by simpa using hb
  rcases two with e | e <;> subst e
  · exact Nat.lt_succ_self _
  · exact Nat.lt_succ_of_lt h
theorem old_of {g : Heap} {o : Obj} (hk : ∀ b u, b ∉ [s.heap.objs.size] → (s.heap.push o).get? b = some u → g.get? b = some u) : ∀ b u, s.heap.get? b = some u → g.get? b = some u := fun b u e =>
  hk b u (fun hb => by
    have h := Heap.lt_size e
    rw [List.mem_singleton.mp hb] at h
    exact Nat.lt_irrefl _ h) (Heap.get?_push_of_some _ e)
theorem num_mem {xs : Array (Int × Tok)} (i : Nat) (hi : i < xs.size) : numAt xs i ∈ xs.toList.map (·.1) := by
  rw [numAt_eq]
  refine PySem.getD_mem ?_
  rw [List.length_map, Array.length_toList]; exact hi
theorem num_all {xs : Array (Int × Tok)} {P : Int → Prop} (h : ∀ i, i < xs.size → P (numAt xs i)) : ∀ a ∈ xs.toList.map (·.1), P a := fun a ha => by
  obtain ⟨i, hi, rfl⟩ := mem_getD ha
  rw [List.length_map, Array.length_toList] at hi
  rw [← numAt_eq]; exact h i hi
theorem max_tup (hh : A.handled = none) (hl : s.heap.IsTuple l us.toArray) (hi : IntsAre us ms) (ne : 0 < ms.length)
    (k : ∀ g tk m t, (∀ b o, s.heap.get? b = some o → g.get? b = some o) → m ∈ ms → (∀ a, a ∈ ms → a ≤ m) → Q (.int m t) { s with heap := g, toks := tk }) : wpAny (model prog w) A (call (.builtin "max") [.ref l]) Q E s := by
  obtain ⟨xs, ht, hn⟩ := as_items hl hi
  rw [nums_intItems] at hn
  have many : 0 < xs.size := by rw [← hn] at ne; simpa using ne
  obtain ⟨apart, st⟩ := starts ht
  refine call_max_walk (wpAny_pyIter_tuple ht ⟨s.heap.objs.size, _, _, _, _, _, _, rfl, Walks.tuple (A := A.in1) hh _ l apart (intItems xs), ⟨⟨_, Heap.get?_push_size _ rfl, rfl, rfl⟩, ht.push _⟩, fun b hb => ?_, ?_, CmpOf.ints_gt (numAt xs) fun _ _ => intItems_at, fun v g tk hv old => ?_⟩)
  · exact st _ b hb
  · simpa [intItems] using many
  · obtain ⟨t, rfl⟩ := intItems_at (show (intItems xs)[argBest (fun i j => decide (numAt xs i > numAt xs j)) (xs.size - 1)]? = some v by simpa [intItems] using hv)
    have best := argBest_gt (numAt xs) (xs.size - 1)
    refine k g tk _ t (old_of old) (hn ▸ num_mem _ (by omega)) fun a ha => ?_
    rw [← hn] at ha
    exact num_all (P := fun a => a ≤ _) (fun i hi => best.2 i (by omega)) a ha
theorem min_tup (hh : A.handled = none) (hl : s.heap.IsTuple l us.toArray) (hi : IntsAre us ms) (ne : 0 < ms.length)
    (k : ∀ g tk m t, (∀ b o, s.heap.get? b = some o → g.get? b = some o) → m ∈ ms → (∀ a, a ∈ ms → m ≤ a) → Q (.int m t) { s with heap := g, toks := tk }) : wpAny (model prog w) A (call (.builtin "min") [.ref l]) Q E s := by
  obtain ⟨xs, ht, hn⟩ := as_items hl hi
  rw [nums_intItems] at hn
  have many : 0 < xs.size := by rw [← hn] at ne; simpa using ne
  obtain ⟨apart, st⟩ := starts ht
  refine call_min_walk (wpAny_pyIter_tuple ht ⟨s.heap.objs.size, _, _, _, _, _, _, rfl, Walks.tuple (A := A.in1) hh _ l apart (intItems xs), ⟨⟨_, Heap.get?_push_size _ rfl, rfl, rfl⟩, ht.push _⟩, fun b hb => ?_, ?_, CmpOf.ints_lt (numAt xs) fun _ _ => intItems_at, fun v g tk hv old => ?_⟩)
  · exact st _ b hb
  · simpa [intItems] using many
  · obtain ⟨t, rfl⟩ := intItems_at (show (intItems xs)[argBest (fun i j => decide (numAt xs i < numAt xs j)) (xs.size - 1)]? = some v by simpa [intItems] using hv)
    have best := argBest_lt (numAt xs) (xs.size - 1)
    refine k g tk _ t (old_of old) (hn ▸ num_mem _ (by omega)) fun a ha => ?_
    rw [← hn] at ha
    exact num_all (P := fun a => _ ≤ a) (fun i hi => best.2 i (by omega)) a ha
end
end PLraw
namespace PL
open PySem L2
section
variable {X : Cx} {H0 : Hp} {pos : Pos} {K : Kf}
def rSumT (K : Kf) : List V → Hp → VK → Prop := fun vs H Q => ∃ (a : Addr) (ns : List Int), vs = [V.ref a] ∧ SqT K H a (ns.map V.int) ∧ Q (.int ns.sum) H
theorem cr_sumT (hc : X.calm = true) : CallR X (.builtin "sum") (rSumT X.K) := by
  rintro pins s σ H vs us Q I r ⟨a, ns, rfl, here, q⟩
  obtain ⟨_, rv, tup, _⟩ := I.tuple here
  exact Vals.ref1 r ▸ PLraw.sum_tup (I.ok.hd hc) tup rv.ints fun _ _ _ old => ⟨.int _, H, I.kept old, ⟨_, rfl⟩, q⟩
def rMaxT (K : Kf) : List V → Hp → VK → Prop := fun vs H Q => ∃ (a : Addr) (ns : List Int), vs = [V.ref a] ∧ SqT K H a (ns.map V.int) ∧ 0 < ns.length ∧ ∀ m, m ∈ ns → (∀ y, y ∈ ns → y ≤ m) → Q (.int m) H
theorem cr_maxT (hc : X.calm = true) : CallR X (.builtin "max") (rMaxT X.K) := by
  rintro pins s σ H vs us Q I r ⟨a, ns, rfl, here, many, q⟩
  obtain ⟨_, rv, tup, _⟩ := I.tuple here
  exact Vals.ref1 r ▸ PLraw.max_tup (I.ok.hd hc) tup rv.ints many fun _ _ m _ old is most => ⟨.int _, H, I.kept old, ⟨_, rfl⟩, q m is most⟩
def rMinT (K : Kf) : List V → Hp → VK → Prop := fun vs H Q => ∃ (a : Addr) (ns : List Int), vs = [V.ref a] ∧ SqT K H a (ns.map V.int) ∧ 0 < ns.length ∧ ∀ m, m ∈ ns → (∀ y, y ∈ ns → m ≤ y) → Q (.int m) H
theorem cr_minT (hc : X.calm = true) : CallR X (.builtin "min") (rMinT X.K) := by
  rintro pins s σ H vs us Q I r ⟨a, ns, rfl, here, many, q⟩
  obtain ⟨_, rv, tup, _⟩ := I.tuple here
  exact Vals.ref1 r ▸ PLraw.min_tup (I.ok.hd hc) tup rv.ints many fun _ _ m _ old is most => ⟨.int _, H, I.kept old, ⟨_, rfl⟩, q m is most⟩
/-- of one list or tuple -/
def onInts (K : Kf) (c : List Int → (Int → Prop) → Prop) : RCp := fun xs M Q => match xs with
  | [.ref a] => ∃ ns : List Int, rdL K M a (ns.map PV.int) ∧ c ns fun m => Q (.int m) M
  | [.tup l] => ∃ ns : List Int, l = ns.map PV.int ∧ c ns fun m => Q (.int m) M
  | _ => False
theorem onInts_sim {c : List Int → (Int → Prop) → Prop} (hm : ∀ ns P P', (∀ m, P m → P' m) → c ns P → c ns P') : SimC K (fun xs H Q => (∃ (a : Addr) (ns : List Int), xs = [V.ref a] ∧ SqL K H a (ns.map V.int) ∧ c ns fun m => Q (.int m) H) ∨ ∃ (a : Addr) (ns : List Int), xs = [V.ref a] ∧ SqT K H a (ns.map V.int) ∧ c ns fun m => Q (.int m) H) (onInts K c) := by
  intro xs H ps M Q Qp rs m u k
  cases rs with
  | nil => exact u.elim
  | cons r rr => cases rr with
    | cons _ _ => cases r <;> exact u.elim
    | nil => cases r with
      | tup h r =>
        obtain ⟨ns, rfl, q⟩ := u
        have e := r.ints
        subst e
        exact .inr ⟨_, ns, rfl, h.t, hm _ _ _ (fun z q => k _ _ _ _ (Tk.refl _ _) m (.int z) q) q⟩
      | ref a =>
        obtain ⟨ns, h, q⟩ := u
        obtain ⟨vs, e, r⟩ := h.to m
        have e2 := r.ints
        subst e2
        exact .inl ⟨_, ns, rfl, e, hm _ _ _ (fun z q => k _ _ _ _ (Tk.refl _ _) m (.int z) q) q⟩
      | _ => exact u.elim
def sumC (ns : List Int) (P : Int → Prop) : Prop := P ns.sum
def maxC (ns : List Int) (P : Int → Prop) : Prop := 0 < ns.length ∧ ∀ m, m ∈ ns → (∀ y, y ∈ ns → y ≤ m) → P m
def minC (ns : List Int) (P : Int → Prop) : Prop := 0 < ns.length ∧ ∀ m, m ∈ ns → (∀ y, y ∈ ns → m ≤ y) → P m
abbrev sumP (K : Kf) : RCp := onInts K sumC
abbrev maxP (K : Kf) : RCp := onInts K maxC
abbrev minP (K : Kf) : RCp := onInts K minC
theorem cSum (hc : X.calm = true) : CallP X (.builtin "sum") (sumP X.K) := ⟨_, (cr_sum hc).or (cr_sumT hc), fun xs H ps M Q Qp rs m u k => (onInts_sim (c := sumC) (fun _ _ _ h q => h _ q)) xs H ps M Q Qp rs m u k⟩
theorem cMax (hc : X.calm = true) : CallP X (.builtin "max") (maxP X.K) := ⟨_, (cr_max hc).or (cr_maxT hc), fun xs H ps M Q Qp rs m u k => (onInts_sim (c := maxC) (fun _ _ _ h q => ⟨q.1, fun z a b => h _ (q.2 z a b)⟩)) xs H ps M Q Qp rs m u k⟩
theorem cMin (hc : X.calm = true) : CallP X (.builtin "min") (minP X.K) := ⟨_, (cr_min hc).or (cr_minT hc), fun xs H ps M Q Qp rs m u k => (onInts_sim (c := minC) (fun _ _ _ h q => ⟨q.1, fun z a b => h _ (q.2 z a b)⟩)) xs H ps M Q Qp rs m u k⟩
/-- max(a, b), min(a, b) -/
def twoI (g : Int → Int → Prop) : List PV → Prop
  | [.int i, .int j] => g i j
  | _ => False
def max2P : RCp := fun xs M Q => twoI (fun i j => Q (.int (if j > i then j else i)) M) xs
def min2P : RCp := fun xs M Q => twoI (fun i j => Q (.int (if j < i then j else i)) M) xs
theorem two_ints {xs : List V} {H : Hp} {ps : List PV} (rs : Reps K H ps xs) {A : Prop} (g : Int → Int → Prop) (u : twoI g ps) (h : ∀ i j, xs = [.int i, .int j] → g i j → A) : A := by
  cases rs with
  | nil => exact u.elim
  | cons r rr => cases rr with
    | nil => cases r <;> exact u.elim
    | cons r2 rr2 => cases rr2 with
      | cons _ _ => cases r <;> cases r2 <;> exact u.elim
      | nil => cases r with
        | int a => cases r2 with
          | int b => exact h a b rfl u
          | _ => exact u.elim
        | _ => cases r2 <;> exact u.elim
theorem cMax2 (hc : X.calm = true) : CallP X (.builtin "max") max2P := ⟨_, call_max2 hc, fun xs H ps M Q Qp rs m u k => two_ints rs (fun i j => Qp (.int (if j > i then j else i)) M) u fun i j e q => ⟨i, j, e, k _ _ _ _ (Tk.refl _ _) m (.int _) q⟩⟩
theorem cMin2 (hc : X.calm = true) : CallP X (.builtin "min") min2P := ⟨_, call_min2 hc, fun xs H ps M Q Qp rs m u k => two_ints rs (fun i j => Qp (.int (if j < i then j else i)) M) u fun i j e q => ⟨i, j, e, k _ _ _ _ (Tk.refl _ _) m (.int _) q⟩⟩

/-! ### methods of built-in types -/
abbrev RMp := PV → List PV → PHp → PVK → Prop
def tyP (K : Kf) (T : String) (x : PV) (M : PHp) : Prop := match x with
  | .str _ => T = "str"
  | .ref a => (T = "list" ∧ ∃ l, rdL K M a l) ∨ (T = "dict" ∧ ∃ kvs, M a = some (.dK kvs))
  | _ => False
theorem tyP_to {H : Hp} {M : PHp} (m : RelM K H M) {T : String} {p : PV} {v : V} (r : Rep K H p v) (h : tyP K T p M) : tyV K T v H := by
  cases r with
  | str z => exact h
  | ref a =>
    rcases h with ⟨h1, l, h2⟩ | ⟨h1, kvs, h2⟩
    · obtain ⟨vs, e, _⟩ := h2.to m
      exact .inl ⟨h1, vs, e⟩
    · obtain ⟨vs, e, _⟩ := m a _ h2
      exact .inr (.inr (.inl ⟨h1, .inl ⟨vs, e⟩⟩))
  | _ => exact h.elim
def MtP (X : Cx) (id : String) (u : RMp) : Prop := ∃ r, MtR X id r ∧ ∀ x xs H px ps M (Q : VK) (Qp : PVK), Rep X.K H px x → Reps X.K H ps xs → RelM X.K H M → u px ps M Qp → Kont X.K H Q Qp → r x xs H Q
@[reducible] def tBM (K : Kf) (T : String) (u : RMp) (to : TEp) (ta : TAp) : TEp := fun σ M Q => to σ M fun x M1 => tyP K T x M1 ∧ ta σ M1 fun ps M2 => u x ps M2 Q
@[reducible] def tBM0 (K : Kf) (T : String) (u : RMp) (to : TEp) : TEp := fun σ M Q => to σ M fun x M1 => tyP K T x M1 ∧ u x [] M1 Q
variable {o e : Expr} {es : List Expr} {to : TEp} {ta : TAp} {name : Str} {apos cpos : Pos} {T id : String} {u : RMp}
theorem pbm0 (pa : PlainAttrs T) (slot : Slot T name id) (hty : typeOf (.builtin id) = pure (.type "method_descriptor")) (hm : MtP X id u) (ho : PEp X H0 o to)
    (h1 : attributeBase o name X.env (eval o X.env) = eval o X.env := by rfl) (h3 : (apos.endLine == cpos.line) = true := by rfl) : PEp X H0 (.Call (.Attribute o name apos) [] [] cpos) (tBM0 X.K T u to) := by
  obtain ⟨r, g1, g2⟩ := hm
  exact peW (pe_bm0 pa slot hty g1 ho h1 h3) fun σ H Q ⟨σp, M, Qp, t, s, m, u, k⟩ => ⟨σp, M, _, t, s, m, u, fun x H1 px M1 t1 m1 rx u1 =>
    ⟨tyP_to m1 rx u1.1, g2 x [] H1 px [] M1 Q Qp rx .nil m1 u1.2 fun v H2 p M2 t2 => k v H2 p M2 (t1.trans t2)⟩⟩
theorem pbm (pa : PlainAttrs T) (slot : Slot T name id) (hty : typeOf (.builtin id) = pure (.type "method_descriptor")) (hm : MtP X id u) (ho : PEp X H0 o to) (ha : PAp X H0 (e :: es) ta)
    (h1 : attributeBase o name X.env (eval o X.env) = eval o X.env := by rfl)
    (h2 : (((backTo cpos (starEach (e :: es) X.env)).all (fun x => !x.1) && (backToKw cpos (keywordEach [] X.env)).all (fun x => x.1.isSome)) && decide ((e :: es).length + ([] : List Keyword).length + (if ([] : List Keyword).isEmpty then 0 else 1) < 30)) = true := by rfl)
    (h3 : (apos.endLine == cpos.line) = true := by rfl) (h4 : starEach (e :: es) X.env = (false, eval e X.env) :: starEach es X.env := by rfl) (h5 : (backTo cpos (starEach es X.env)).any (·.1) = false := by rfl) :
    PEp X H0 (.Call (.Attribute o name apos) (e :: es) [] cpos) (tBM X.K T u to ta) := by
  obtain ⟨r, g1, g2⟩ := hm
  exact peW (pe_bm pa slot hty g1 ho ha h1 h2 h3 h4 h5) fun σ H Q ⟨σp, M, Qp, t, s, m, u, k⟩ => ⟨σp, M, _, t, s, m, u, fun x H1 px M1 t1 m1 rx u1 =>
    ⟨tyP_to m1 rx u1.1, σp, M1, _, t.trans t1, s.mono t1, m1, u1.2, fun xs H2 ps M2 t2 m2 rs u2 => g2 x xs H2 px ps M2 Q Qp (rx.mono t2) rs m2 u2 fun v H3 p M3 t3 => k v H3 p M3 (t1.trans (t2.trans t3))⟩⟩
def appendP : RMp := fun x ps M Q => match x, ps with
  | .ref a, [p] => ∃ l, M a = some (.lst l) ∧ l.length < sizeLine ∧ Q .non (updM M a (.lst (l ++ [p])))
  | _, _ => False
theorem mAppend : MtP X "list.append" appendP := by
  refine ⟨_, mt_append, fun x xs H px ps M Q Qp rx rs m u k => ?_⟩
  cases rx with
  | ref a => cases rs with
    | nil => exact u.elim
    | cons r rr => cases rr with
      | cons _ _ => exact u.elim
      | nil =>
        obtain ⟨l, h, hl, q⟩ := u
        obtain ⟨vs, e, rv⟩ := m _ _ h
        obtain ⟨tk, mm⟩ := Tk_set (l := l) m e (rv.snoc r)
        exact ⟨_, _, _, rfl, rfl, e, by rw [← rv.length]; exact hl, k _ _ _ _ tk mm .non q⟩
  | _ => cases rs <;> exact u.elim
def popP : RMp := fun x ps M Q => match x, ps with
  | .ref a, [] => ∃ l y, M a = some (.lst l) ∧ l[l.length - 1]? = some y ∧ Q y (updM M a (.lst l.dropLast))
  | _, _ => False
theorem Reps.dropLast {H : Hp} {ps : List PV} {vs : List V} (r : Reps K H ps vs) : Reps K H ps.dropLast vs.dropLast := by
  rw [List.dropLast_eq_take, List.dropLast_eq_take, r.length]
  exact r.take _
theorem mPop : MtP X "list.pop" popP := by
  refine ⟨_, mt_pop, fun x xs H px ps M Q Qp rx rs m u k => ?_⟩
  cases rx with
  | ref a => cases rs with
    | cons _ _ => exact u.elim
    | nil =>
      obtain ⟨l, y, h, hl, q⟩ := u
      obtain ⟨vs, e, rv⟩ := m _ _ h
      obtain ⟨v, e2, r2⟩ := rv.get hl
      obtain ⟨tk, mm⟩ := Tk_set (l := l) m e rv.dropLast
      exact ⟨_, _, v, rfl, rfl, e, by rw [← rv.length]; exact e2, k _ _ _ _ tk mm (r2.mono tk) q⟩
  | _ => cases rs <;> exact u.elim
/-- the first place of a whole number in a list of whole numbers -/
def indexIP (K : Kf) : RMp := fun x ps M Q => match x, ps with
  | .ref a, [.int y] => ∃ (ns : List Int) (j : Nat), rdL K M a (ns.map PV.int) ∧ ns[j]? = some y ∧ (∀ i, i < j → ns[i]? ≠ some y) ∧ Q (.int (j : Int)) M
  | _, _ => False
theorem mIndexI : MtP X "list.index" (indexIP X.K) := by
  refine ⟨_, mt_index, fun x xs H px ps M Q Qp rx rs m u k => ?_⟩
  cases rx with
  | ref a => cases rs with
    | nil => exact u.elim
    | cons r rr => cases rr with
      | cons _ _ => cases r <;> exact u.elim
      | nil => cases r with
        | int y =>
          obtain ⟨ns, j, h, h1, h2, q⟩ := u
          obtain ⟨vs, e, rv⟩ := h.to m
          have e2 := rv.ints
          subst e2
          refine ⟨a, ns.map V.int, .int y, j, .int y, rfl, rfl, e, rfl, ?_, ?_, ?_, ?_, k _ _ _ _ (Tk.refl _ _) m (.int _) q⟩
          · rw [List.all_eq_true]
            intro z hz
            obtain ⟨n, _, rfl⟩ := List.mem_map.mp hz
            rfl
          · rw [List.getElem?_map, h1]; rfl
          · show (y == y) = true
            exact beq_self_eq_true y
          · intro i z hi hz
            rw [List.getElem?_map] at hz
            cases e3 : ns[i]? with
            | none => rw [e3] at hz; cases hz
            | some n =>
              rw [e3] at hz
              have e4 := Option.some.inj hz
              subst e4
              show (n == y) = false
              rw [beq_eq_false_iff_ne]
              intro e5
              exact h2 i hi (by rw [e3, e5])
        | _ => exact u.elim
  | _ => cases rs with
    | nil => exact u.elim
    | cons r rr => cases rr <;> cases r <;> exact u.elim
end
end PL

set_option Elab.async false
set_option linter.all false
set_option maxRecDepth 100000
set_option maxHeartbeats 2000000
/-! PL7: the end of a law. -/
namespace PL
open PySem L2 PySem.Spec PyProof.Rows
/-- the end: as law_call of the layer, but the def may also use that nothing sees a great division -/
theorem law_callS {P : Program} {w : World} {K : Kf} {mg mb : Str → Option Value} {k : Nat} {fa sc : Addr} {fd : FuncData} {x : Str} {sp : Sp} {t : Shared} {us : List Value} {zs : List Int}
    (kin : K.In t.heap) (glob : t.heap.Ns mainGlobals mg) (blt : t.heap.Ns builtinsNs mb) (boot : ∀ x : Str, x ≠ "__name__" → mb x = bootBuiltins x) (lim : t.heap.NoLimit) (see : t.heap.NoSeer) (quiet : t.gens = #[])
    (script : t.heap.get? sc = some { cls := .type "list", data := .seq us.toArray }) (whole : IntsAre us zs) (few : zs.length ≤ sizeLine) (room : Room k callerA)
    (F : ∀ base : Heap, K.In base → base.Ns mainGlobals mg → base.NoSeer → FnOk P w K mg base CX0 k fa fd [x] sp) (binds : ∀ (s : Shared) (u : Value), BindsTo s fd ⟨[u], []⟩ [(x, u)])
    (keeps : ∀ H : Hp, Only H → SqL K H sc (zs.map V.int) → sp [.ref sc] H (fun v _ => v = .bl true) fun _ _ _ => False) :
    codeAny (model P w) callerA (.call (.ref fa) ⟨[.ref sc], []⟩) (fun r s' => r = .ok (.ret (.bool true)) ∧ OldK t.heap s'.heap ∧ s'.os = t.os ∧ AllBare s'.gens) t := by
  have vals := vals_ints whole
  -- H tracks the script at most; then the base is the heap without it
  have main : ∀ H : Hp, Only H → SqL K H sc (zs.map V.int) → HOk P w H t.heap → (∀ b, H b ≠ none → b = sc ∧ K.lookup sc = none) →
      codeAny (model P w) callerA (.call (.ref fa) ⟨[.ref sc], []⟩) (fun r s' => r = .ok (.ret (.bool true)) ∧ OldK t.heap s'.heap ∧ s'.os = t.os ∧ AllBare s'.gens) t := by
    intro H only seq ok at_sc
    have free : ∀ {b : Addr} {o : Obj}, t.heap.get? b = some o → o ≠ { cls := .type "list", data := .seq us.toArray } → H b = none := fun {b o} e d => by
      cases q : H b with
      | none => rfl
      | some u =>
        obtain ⟨rfl, _⟩ := at_sc b (by rw [q]; exact Option.some_ne_none u)
        exact absurd (Option.some.inj (e.symm.trans script)) d
    have stay : ∀ {b : Addr} {o : Obj}, t.heap.get? b = some o → o ≠ { cls := .type "list", data := .seq us.toArray } → (hidT t.heap H).get? b = some o := fun e d => hidT_get e (free e d)
    have ns : ∀ {b : Addr} {m : Str → Option Value}, t.heap.Ns b m → (hidT t.heap H).Ns b m := fun {b m} n => by
      obtain ⟨o, es, ep, e, d, r⟩ := n
      refine ⟨o, es, ep, stay e (fun z => ?_), d, r⟩
      subst z
      exact Data.noConfusion d
    have kb : K.In (hidT t.heap H) := fun b o e => hidT_get (kin b o e) (by
      cases q : H b with
      | none => rfl
      | some u =>
        obtain ⟨rfl, no⟩ := at_sc b (by rw [q]; exact Option.some_ne_none u)
        rw [no] at e; cases e)
    have nsee : (hidT t.heap H).NoSeer := by
      obtain ⟨⟨m1, a1, b1⟩, ⟨m2, a2, b2⟩, ⟨m3, a3, b3⟩, ⟨m4, bm, ob, a4, b4, c4, d4, e4⟩⟩ := see
      refine ⟨⟨m1, ns a1, b1⟩, ⟨m2, ns a2, b2⟩, ⟨m3, ns a3, b3⟩, ⟨m4, bm, ob, ns a4, b4, stay c4 (fun z => ?_), d4, e4⟩⟩
      subst z
      injection d4 with d5
      revert d5; decide
    have nlim : (hidT t.heap H).NoLimit := by
      obtain ⟨m1, a1, b1⟩ := lim
      exact ⟨m1, ns a1, b1⟩
    have around : Env0 P w K mg (hidT t.heap H) callerA [] t H := ⟨rfl, ⟨kb, ns glob, ⟨mb, ns blt, boot⟩, nlim⟩, fun b o e => of_hidT e, Nat.le_of_eq (hidT_size _ _), trivial, (fun b hb => by cases hb), ok, .of_eq quiet⟩
    have ran := (F _ kb (ns glob) nsee).run callerA [] t H ⟨[.ref sc], []⟩ [.ref sc] [.ref sc] _ _ room around (binds t (.ref sc)) (.cons rfl .nil) (keeps H only seq)
    refine codeAny_mono ran fun r s' h => ?_
    match r, h with
    | .ok (.ret u), ⟨v, H', os, bare, un, ok', rel, hv⟩ =>
      have hv' : v = .bl true := hv
      subst hv'
      obtain rfl : u = Value.bool true := rel
      refine ⟨rfl, .of_keep fun b o e => ?_, os, bare⟩
      cases q : H b with
      | none => exact un.keep b o e q (List.not_mem_nil) (List.not_mem_nil)
      | some u =>
        rcases only b with none | ⟨ob, xs, here⟩
        · rw [none] at q; cases q
        · have before := (ok b _ here).1
          have behind := (ok' b _ (un.frzs b ob _ here)).1
          rw [← Option.some.inj (before.symm.trans e)]
          exact behind
  by_cases known : K.lookup sc = none
  · refine main (fun b => if b = sc then some (.frz { cls := .type "list", data := .seq us.toArray } (.lst (zs.map V.int))) else none) (fun b => ?_) (.inl (.inr ⟨_, if_pos rfl⟩)) (fun b u here => ?_) fun b here => ?_
    all_goals by_cases at_b : b = sc
    · exact .inr ⟨_, _, if_pos at_b⟩
    · exact .inl (if_neg at_b)
    · subst at_b
      obtain rfl := Option.some.inj ((if_pos rfl).symm.trans here)
      exact ⟨script, Nat.le_trans (Nat.le_of_eq (List.length_map _)) few, us, _, vals, script⟩
    · exfalso; have z := (if_neg at_b).symm.trans here; cases z
    · exact ⟨at_b, known⟩
    · exact absurd (if_neg at_b) here
  · obtain ⟨o, ko⟩ := Option.ne_none_iff_exists'.mp known
    have same := Option.some.inj ((kin sc o ko).symm.trans script)
    subst same
    exact main (fun _ => none) (fun _ => .inl rfl) (.inr ⟨_, us.toArray, _, ko, rfl, rfl, rfl, by rw [List.size_toArray, whole.length]; exact few, vals⟩) (fun b u here => by cases here) fun b here => absurd rfl here
/-- what the law's own def promises -/
def spLaw (K : Kf) : PSpec := fun vs M Q _ => ∃ (a : Addr) (ns : List Int), vs = [.ref a] ∧ rdL K M a (ns.map PV.int) ∧ ns.length ≤ 63 ∧ (∀ z ∈ ns, Builtin.Int.intBits z ≤ 1048576) ∧ Q (.bl true) M
theorem walkP {l : PySem.W.OpenLaw} {k : Nat} {q : Program} {loose : List Str} {XP : (Str → Option Value) → Heap → Prop} {YP : World → Heap → Prop} {d : DefRec} {K : Params → Kf} {x : Str}
    (hn : l.most = some 63) (hdf : d.params.defaults = []) (hr : Room k callerA) (ht : l.prog.given.tree = none) (hq : importsNone q = true)
    (hY : ∀ (wd : World) (hp : Heap), YP wd hp → (K wd.params).In hp)
    (F : ∀ (wd : World) (g : Str → Option Value) (fa : Addr) (hp : Heap), (K wd.params).In hp → hp.Ns mainGlobals g → g d.name = some (.ref fa) →
      ∃ fd : FuncData, (∀ (t : Shared) (z : Value), BindsTo t fd ⟨[z], []⟩ [(x, z)]) ∧ ∀ b0 : Heap, (K wd.params).In b0 → b0.Ns mainGlobals g → Sure l.prog b0 → FnOk l.prog wd (K wd.params) g b0 CX0 k fa fd [x] (concF (K wd.params) (spLaw (K wd.params)))) :
    PySem.W.WalkO q loose XP YP l.row.toRowW d [] (fun fn us => PySem.call fn us) := by
  refine Att.attach_callB hn hdf fun w before after mg mb fa o pm cd doc a vs ns G Y _ _ _ named here whole few bits quiet => ?_
  have kin := hY w _ Y
  obtain ⟨fd, bound, proved⟩ := F w mg fa _ kin G.T.g named
  refine law_callS kin G.T.g G.T.b G.T.builtins G.T.nolimit (G.T.seer hq) quiet here whole (Nat.le_trans few (by decide)) hr (fun base h1 h2 h3 => proved base h1 h2 ⟨h3, ht⟩) bound (fun H hO hS => ?_)
  rcases hS with hS | hS
  · refine ⟨[.ref a], fun b => if b = a then some (.ro (ns.map PV.int)) else none, fun v _ => v = .bl true, fun _ _ _ => False, .cons (.ref a) .nil, fun b o e => ?_, ⟨a, ns, rfl, .inr (.inl (if_pos rfl)), few, bits, rfl⟩, fun v H' p M' _ _ r e => ?_, fun _ _ _ _ _ _ z => z⟩
    · have e : (if b = a then some (MO.ro (ns.map PV.int)) else none) = some o := e
      by_cases hb : b = a
      · rw [if_pos hb] at e; cases e; subst hb
        exact ⟨_, hS, Reps.of_ints⟩
      · rw [if_neg hb] at e; cases e
    · subst e; cases r; rfl
  · refine ⟨[.ref a], fun b => none, fun v _ => v = .bl true, fun _ _ _ => False, .cons (.ref a) .nil, (fun b o e => by cases e), ⟨a, ns, rfl, .inr (.inr ⟨_, hS, fun H => Reps.of_ints⟩), few, bits, rfl⟩, fun v H' p M' _ _ r e => ?_, fun _ _ _ _ _ _ z => z⟩
    subst e; cases r; rfl
/-- a def stands where the top has written it -/
theorem here_of {K : Kf} {h : Heap} {mg : Str → Option Value} {x : Str} {st : Stmt} {ps : List Str} {f : Addr} {oc : Value} {od an : Option Addr} {osl : Array (Option Value)} {kV dc pm cd ct : Value} (X : K.In h) (G : h.Ns mainGlobals mg)
    (a : PySem.W.nsIn K mainGlobals x = some (some (.ref f))) (l : K.lookup f = some ⟨oc, od, .func (PySem.W.fnOf x x (defArgs st) (defBody st) (defScope st) .none kV dc pm an cd ct), osl⟩) (c : PySem.W.codeIn K cd x = true) (k : PySem.W.keepIn K (.ref f) = true)
    (b : ∀ (kV doc pm : Value) (an : Option Addr) (cdv ct : Value) (us : List Value), us.length = ps.length → bindArgs (PySem.W.fnOf x x (defArgs st) (defBody st) (defScope st) .none kV doc pm an cdv ct) ⟨us, []⟩ = pure (ps.zip us)) : Here K mg x st ps :=
  ⟨⟨f, _, fun_mk l c k, PySem.W.mg_of X G a, (fun_mk l c k).binds b⟩⟩
/-- the law's own def -/
theorem law_of {P : Program} {w : World} {K : Kf} {mg : Str → Option Value} {base : Heap} {k : Nat} {x : Str} {st : Stmt} {N ps : List Str} {psp : PSpec} {f : Addr} {fd : FuncData} (F : Fun K x x st f fd) (S : FnScope N ps (defScope st)) (len : ∀ vs M Q E, psp vs M Q E → vs.length = ps.length)
    (body : ∀ f cdv A outer s H E, Room k (defCx P w K mg base N x st f cdv A outer s H E).A → ∃ t, PSsp (defCx P w K mg base N x st f cdv A outer s H E) H (defBody st) t ∧ ∀ vs M Q Ep, psp vs M Q Ep → t (ends Q) (startP N vs) M) :
    FnOk P w K mg base CX0 (k + 1) f fd ps (concF K psp) := by
  refine F.ok S (fun vs H Q E h => ?_) (fun cdv A outer s H vs Q E hr h => ?_)
  · obtain ⟨qs, M, Qp, Ep, r, m, u, _⟩ := h
    rw [← r.length]
    exact len _ _ _ _ u
  · obtain ⟨qs, M, Qp, Ep, r, m, u, k1, k2⟩ := h
    obtain ⟨t, d, b⟩ := body f cdv A outer s H E hr
    refine ⟨_, d, startP N qs, M, ends Qp, Tk.refl _ _, startP_rel r N, m, b _ _ _ _ u, ⟨fun σ' H' σp' M' t1 s1 m1 q => ?_, fun v H' p M' t1 m1 r1 q => ?_, fun _ _ _ _ _ _ _ z => z.elim, fun _ _ _ _ _ _ _ z => z.elim⟩⟩
    · obtain ⟨M0, sb, q⟩ := q
      exact k1 _ _ _ _ t1 (m1.sub sb) .non q
    · obtain ⟨M0, sb, q⟩ := q
      exact k1 _ _ _ _ t1 (m1.sub sb) r1 q
end PL
namespace PL
open PySem L2
section
variable {X : Cx} {H0 : Hp} {K : Kf} {st : Stmt} {rest : List Stmt} {ts us : TSp}
/-- a statement, then the rest from a word between them -/
@[reducible] def tCut (t u : TSp) : TSp := fun D σ M => ∃ Mid : PSt → PHp → Prop, t (nxt D (Nx Mid)) σ M ∧ ∀ σ' M', Mid σ' M' → u D σ' M'
theorem psscut (h1 : PSp' X H0 st ts) (h2 : PSsp X H0 rest us) : PSsp X H0 (st :: rest) (tCut ts us) := pssW (pss_cons h1 h2) fun D σ H ⟨σp, M, Dp, t, s, m, ⟨Mid, u, q⟩, k⟩ =>
  ⟨σp, M, _, t, s, m, u, ⟨fun σ1 H1 σp1 M1 t1 s1 m1 ⟨σ0, M0, ss, sm, z⟩ => ⟨σ0, M0, Dp, t.trans t1, s1.sub ss, m1.sub sm, q _ _ z, k.mono t1⟩, k.rt, k.bk, k.ct⟩⟩
end
end PL

set_option Elab.async false
set_option linter.all false
set_option maxRecDepth 100000
set_option maxHeartbeats 2000000
/-! PL8: answers. -/
namespace PL
open PySem L2
section
variable {K : Kf} {M : PHp} {a : Addr} {l xs : List PV} {v : PV} {i j : Int} {n : Nat} {B : Prop}
theorem g_ixl {R : PV → Prop} (h : rdL K M a l) (e : atI l i = some v) (q : R v) : ∃ l, rdL K M a l ∧ ∃ v, atI l i = some v ∧ R v := ⟨_, h, _, e, q⟩
theorem g_ixt {R : PV → Prop} (e : atI l i = some v) (q : R v) : ∃ v, atI l i = some v ∧ R v := ⟨_, e, q⟩
theorem g_rd {R : List PV → Prop} (h : rdL K M a l) (q : R l) : ∃ l, rdL K M a l ∧ R l := ⟨_, h, q⟩
theorem g_set {R : List PV → Nat → Prop} (h : M a = some (.lst xs)) (e : ixN xs.length i = some n) (q : R xs n) : ∃ xs j, M a = some (.lst xs) ∧ ixN xs.length i = some j ∧ R xs j := ⟨_, _, h, e, q⟩
theorem g_app {R : List PV → Prop} (h : M a = some (.lst xs)) (e : xs.length < sizeLine) (q : R xs) : ∃ l, M a = some (.lst l) ∧ l.length < sizeLine ∧ R l := ⟨_, h, e, q⟩
theorem g_lst {R : List PV → Prop} (h : M a = some (.lst xs)) (q : R xs) : ∃ l, M a = some (.lst l) ∧ R l := ⟨_, h, q⟩
theorem g_sz (h : xs.length ≤ sizeLine) (q : B) : xs.length ≤ sizeLine ∧ B := ⟨h, q⟩
theorem g_mul (h : IntMulOk i j) (q : B) : IntMulOk i j ∧ B := ⟨h, q⟩
theorem g_ne (h : j ≠ 0) (q : B) : j ≠ 0 ∧ B := ⟨h, q⟩
theorem g_pow (h : 0 ≤ j ∧ j ≤ 1000000 ∧ i.natAbs < 2 ^ 64) (q : B) : (0 ≤ j ∧ j ≤ 1000000 ∧ i.natAbs < 2 ^ 64) ∧ B := ⟨h, q⟩
theorem g_kit {t s : String} (h : isiKit t s = true) (q : B) : isiKit t s = true ∧ B := ⟨h, q⟩
theorem g_rng1 (h : -(2 ^ 62) ≤ j ∧ j < 2 ^ 62) (q : B) : (-(2 ^ 62) ≤ j ∧ j < 2 ^ 62) ∧ B := ⟨h, q⟩
theorem g_rng2 (h : -(2 ^ 62) ≤ i ∧ i < 2 ^ 62 ∧ -(2 ^ 62) ≤ j ∧ j < 2 ^ 62) (q : B) : (-(2 ^ 62) ≤ i ∧ i < 2 ^ 62 ∧ -(2 ^ 62) ≤ j ∧ j < 2 ^ 62) ∧ B := ⟨h, q⟩
theorem g_tup {k : Nat} (h : xs.length = k) (q : B) : xs.length = k ∧ B := ⟨h, q⟩
theorem g_ty {T : String} {x : PV} (h : tyP K T x M) (q : B) : tyP K T x M ∧ B := ⟨h, q⟩
theorem small_ok {i j : Int} (h : i.natAbs < 2 ^ 64) : IntMulOk i j := by
  refine IntMulOk.of_left ?_
  unfold Builtin.Int.intBits
  split
  · omega
  · rename_i hz
    have h2 := (Nat.log2_lt (n := i.natAbs) (k := 64) (by simpa using hz)).mpr h
    omega
theorem small_ok' {i j : Int} (h : j.natAbs < 2 ^ 64) : IntMulOk i j := by
  refine IntMulOk.of_right ?_
  unfold Builtin.Int.intBits
  split
  · omega
  · rename_i hz
    have h2 := (Nat.log2_lt (n := j.natAbs) (k := 64) (by simpa using hz)).mpr h
    omega
end
/-! the same with the written part named -/
section
variable {X : Cx} {H0 : Hp} {pos : Pos} {K : Kf}
theorem opEqK (hu : X.A.units + 64 < cLine) (hK : X.K = K := by rfl) : OpP X (compareOp .Eq) (eqP K) := hK ▸ opEq hu
theorem opNeK (hu : X.A.units + 64 < cLine) (hK : X.K = K := by rfl) : OpP X (compareOp .NotEq) (neP K) := hK ▸ opNe hu
theorem cLenK (hK : X.K = K := by rfl) : CallP X (.builtin "len") (lenP K) := hK ▸ cLen
theorem cTupleK (hK : X.K = K := by rfl) : CallP X (.type "tuple") (tupleP K) := hK ▸ cTuple
theorem cListK (hK : X.K = K := by rfl) : CallP X (.type "list") (listP K) := hK ▸ cList
theorem cIsiK (hK : X.K = K := by rfl) : CallP X (.builtin "isinstance") (isiP K) := hK ▸ cIsi
theorem cSumK (hc : X.calm = true) (hK : X.K = K := by rfl) : CallP X (.builtin "sum") (sumP K) := hK ▸ cSum hc
theorem cMaxK (hc : X.calm = true) (hK : X.K = K := by rfl) : CallP X (.builtin "max") (maxP K) := hK ▸ cMax hc
theorem cMinK (hc : X.calm = true) (hK : X.K = K := by rfl) : CallP X (.builtin "min") (minP K) := hK ▸ cMin hc
theorem mIndexIK (hK : X.K = K := by rfl) : MtP X "list.index" (indexIP K) := hK ▸ mIndexI
theorem pixK {a b : Expr} {ta tb : TEp} (ha : PEp X H0 a ta) (hb : PEp X H0 b tb) (hs : PlainIx b := by exact fun _ _ => rfl) (hK : X.K = K := by rfl) : PEp X H0 (.Subscript a b pos) (tOp (ixP K) ta tb) := by
  subst hK; exact pix ha hb hs
theorem piseqK {tg e : Expr} {te : TEp} (h : PEp X H0 e te) (hK : X.K = K := by rfl) : PIp' X H0 tg e (iSeq K te) := by
  subst hK; exact piseq h
variable {o e : Expr} {es : List Expr} {to : TEp} {ta : TAp} {name : Str} {apos cpos : Pos} {T id : String} {u : RMp}
theorem pbm0K (pa : PlainAttrs T) (slot : Slot T name id) (hty : typeOf (.builtin id) = pure (.type "method_descriptor")) (hm : MtP X id u) (ho : PEp X H0 o to)
    (h1 : attributeBase o name X.env (eval o X.env) = eval o X.env := by rfl) (h3 : (apos.endLine == cpos.line) = true := by rfl) (hK : X.K = K := by rfl) : PEp X H0 (.Call (.Attribute o name apos) [] [] cpos) (tBM0 K T u to) := by
  subst hK; exact pbm0 pa slot hty hm ho h1 h3
theorem pbmK (pa : PlainAttrs T) (slot : Slot T name id) (hty : typeOf (.builtin id) = pure (.type "method_descriptor")) (hm : MtP X id u) (ho : PEp X H0 o to) (ha : PAp X H0 (e :: es) ta)
    (h1 : attributeBase o name X.env (eval o X.env) = eval o X.env := by rfl)
    (h2 : (((backTo cpos (starEach (e :: es) X.env)).all (fun x => !x.1) && (backToKw cpos (keywordEach [] X.env)).all (fun x => x.1.isSome)) && decide ((e :: es).length + ([] : List Keyword).length + (if ([] : List Keyword).isEmpty then 0 else 1) < 30)) = true := by rfl)
    (h3 : (apos.endLine == cpos.line) = true := by rfl) (h4 : starEach (e :: es) X.env = (false, eval e X.env) :: starEach es X.env := by rfl) (h5 : (backTo cpos (starEach es X.env)).any (·.1) = false := by rfl) (hK : X.K = K := by rfl) :
    PEp X H0 (.Call (.Attribute o name apos) (e :: es) [] cpos) (tBM K T u to ta) := by
  subst hK; exact pbm pa slot hty hm ho ha h1 h2 h3 h4 h5
end
end PL

set_option Elab.async false
set_option linter.all false
set_option maxRecDepth 100000
set_option maxHeartbeats 2000000
/-! PL9: membership, isinstance of a tuple of types, str, pop(i), sorted, ranges as lists, two fors, what is never reached. -/
namespace PLraw
open PySem PySem.Spec PySem.Calls PyProof.Rows
section
variable {prog : Program} {w : World} {A : Around} {E : Value → Shared → Prop} {s : Shared}
/-- the items of a tuple, gathered -/
theorem gather_tup {l : Addr} {vs : List Value} {Q : List Value → Shared → Prop} (tup : s.heap.IsTuple l vs.toArray) (few : vs.length ≤ sizeLine)
    (h : Q vs { s with heap := (s.heap.push (seqObj "list" #[] 0)).update s.heap.objs.size (Obj.mapSeq (· ++ vs.toArray)) }) : wpAny (model prog w) A (collect (.ref l)) Q E s := by
  obtain ⟨o, at_l, cls, n, dat⟩ := tup
  have quiet : ∀ args, (Code.builtin "list.__iadd__" args).quiet = true := fun args => Code.quiet_builtin args (by decide +kernel)
  unfold collect; refine wpAny_bind (wpAny_runValue (codeAny_builtin entry_proto_collect' ?_)); change wpAny _ _ (do again (.builtin "list.__iadd__" ⟨[← newList [], .ref l], []⟩)) _ _ s
  refine wpAny_bind (wpAny_newList (wpAny_pure ⟨quiet _, codeAny_builtin entry_list_iadd' ?_⟩))
  change wpAny _ _ (Builtin.List.listExtendWith (.ref s.heap.objs.size) (.ref l) (.ref s.heap.objs.size)) _ _ { s with heap := s.heap.push (seqObj "list" #[] 0) }; unfold Builtin.List.listExtendWith
  have here : (s.heap.push (seqObj "list" #[] 0)).get? l = some o := Heap.get?_push_of_some _ at_l
  have fresh : (s.heap.push (seqObj "list" #[] 0)).get? s.heap.objs.size = some (seqObj "list" #[] 0) := Heap.get?_push_size _ rfl
  refine wpAny_bind (wpAny_typeOf (T := "tuple") ⟨o, here, cls⟩ ?_)
  rw [if_pos (by rw [show (Value.type "tuple" == Value.type "tuple") = true by rfl]; simp)]
  refine wpAny_bind (listItems_at here dat (wpAny_bind (listItems_at (xs := #[]) (n := 0) fresh rfl ?_)))
  rw [if_neg (by simp)]
  refine wpAny_bind (listUpdate_at (xs := #[]) (n := 0) fresh rfl (wpAny_pure ?_) (Nat.zero_le _) (by show (#[] ++ vs.toArray).size ≤ sizeLine + 1; simp only [Array.size_append, List.size_toArray, List.length_nil]; omega))
  change wpAny (model prog w) A (load s.heap.objs.size >>= fun ob => match ob.data with | .seq xs _ => pure xs.toList | _ => unsupported "internal:collect") Q E { s with heap := (s.heap.push (seqObj "list" #[] 0)).update s.heap.objs.size (Obj.mapSeq (· ++ vs.toArray)) }
  have all : ((#[] : Array Value) ++ vs.toArray).toList = vs := by simp
  refine wpAny_bind (wpAny_load (get?_update_seq fresh _) ?_); change wpAny _ _ (pure ((#[] : Array Value) ++ vs.toArray).toList) Q E _
  rw [all]
  exact wpAny_pure h
/-- sorted(x) of a tuple, by its sort -/
theorem sorted_tup {l : Addr} {vs : List Value} {Q : Value → Shared → Prop} {R : Array Value → Prop} (tup : s.heap.IsTuple l vs.toArray) (few : vs.length ≤ sizeLine)
    (sorts : ∀ (A : Around) (t : Shared) (a : Addr) (P : Fin → Shared → Prop), t.heap.get? a = some (seqObj "list" vs.toArray 0) → (∀ out, R out → P (.done (.ret .none)) { t with heap := sortedHeap t.heap a vs out }) → ∀ E, wpAny (model prog w) A (Builtin.«list.sort» ⟨[.ref a], []⟩) P E t)
    (h : ∀ out, R out → Q (.ref (s.heap.objs.size + 1)) { s with heap := sortedAll s.heap vs out }) : wpAny (model prog w) A (call (.builtin "sorted") [.ref l]) Q E s := by
  refine (Calls.call_function_entry kind_sorted plain_sorted entry_sorted (args_sorted1 _) ?_)
  unfold Builtin.«sorted»
  refine wpAny_bind (m := checkCount "sorted" 1 1 _) (wpAny_pure (wpAny_bind (gather_tup tup few (wpAny_bind (wpAny_newList ?_)))))
  have count : ((s.heap.push (seqObj "list" #[] 0)).update s.heap.objs.size (Obj.mapSeq (· ++ vs.toArray))).objs.size = s.heap.objs.size + 1 := (Heap.size_update _ _ _).trans (size_push' _ _)
  have laid : (((s.heap.push (seqObj "list" #[] 0)).update s.heap.objs.size (Obj.mapSeq (· ++ vs.toArray))).push (seqObj "list" vs.toArray 0)).get? (s.heap.objs.size + 1) = some (seqObj "list" vs.toArray 0) := count ▸ Heap.get?_push_size _ rfl
  change wpAny _ _ _ _ _ { s with heap := ((s.heap.push (seqObj "list" #[] 0)).update s.heap.objs.size (Obj.mapSeq (· ++ vs.toArray))).push (seqObj "list" vs.toArray 0) }
  rw [count]
  exact wpAny_bind (wpAny_holding (wpAny_call_entry slot_list_sort ⟨_, laid, rfl⟩ entry_list_sort (sorts _ _ _ _ laid (fun out ro => ⟨_, rfl, wpAny_pure ⟨_, rfl, h out ro⟩⟩) _) (args_list_sort _)))
theorem sorted_tup_ints {l : Addr} {vs : List Value} {ns : List Int} {Q : Value → Shared → Prop} (tup : s.heap.IsTuple l vs.toArray) (whole : IntsAre vs ns) (few : vs.length ≤ sizeLine)
    (h : ∀ (out : Array Value) (ms : List Int), IntsAre out.toList ms → ms.Perm ns → ms.Pairwise (· ≤ ·) → Q (.ref (s.heap.objs.size + 1)) { s with heap := sortedAll s.heap vs out }) : wpAny (model prog w) A (call (.builtin "sorted") [.ref l]) Q E s :=
  sorted_tup (R := fun out => ∃ ms, IntsAre out.toList ms ∧ ms.Perm ns ∧ ms.Pairwise (· ≤ ·)) tup few (fun A t a P here k E => list_sort_treeAny here whole few fun out ms h1 h2 h3 => k out ⟨ms, h1, h2, h3⟩) fun out ⟨ms, h1, h2, h3⟩ => h out ms h1 h2 h3
end
end PLraw
namespace PL
open PySem L2
section
variable {X : Cx} {H0 : Hp} {pos : Pos} {K : Kf}
/-! ### never reached -/
@[reducible] def tDead : TSp := fun _ _ _ => False
theorem psdead {st : Stmt} : PSp' X H0 st tDead := ⟨fun _ _ _ _ _ _ ⟨_, _, _, _, _, _, h, _⟩ => h.elim⟩
theorem pssdead {sts : List Stmt} : PSsp X H0 sts tDead := ⟨fun _ _ _ _ _ _ ⟨_, _, _, _, _, _, h, _⟩ => h.elim⟩
theorem Callee.never {P : Program} {w : World} {mg : Str → Option Value} {base : Heap} {k : Nat} {x : Str} {st : Stmt} {N ps : List Str} (h : Here K mg x st ps) (S : FnScope N ps (defScope st)) : Callee P w K mg base (k + 1) x ps (fun _ _ _ _ => False) :=
  ok_of h S (fun _ _ _ _ z => z.elim) fun f cdv A outer s H E hr => ⟨_, pssdead, fun _ _ _ _ z => z.elim⟩
/-! ### x in xs -/
/-- x among the items, by == -/
def inL (x : PV) (l : List PV) : Bool := l.any fun y => flEq y x
theorem flat_rep {H : Hp} {p : PV} {v : V} (r : Rep K H p v) (f : flatP p = true) : flatV v = true := by
  cases r <;> first | rfl | cases f
theorem flat_reps {H : Hp} {ps : List PV} : ∀ {vs : List V}, Reps K H ps vs → ps.all flatP = true → vs.all flatV = true := by
  induction ps with
  | nil => intro vs r _; cases r; rfl
  | cons p ps ih =>
    intro vs r f
    cases r with
    | cons a b =>
      rw [List.all_cons, Bool.and_eq_true] at f ⊢
      exact ⟨flat_rep a f.1, ih b f.2⟩
theorem flat_eq {H : Hp} {p q : PV} {v u : V} (r : Rep K H p v) (r' : Rep K H q u) (f : flatP p = true) (f' : flatP q = true) : eqV v u = flEq p q := by
  cases r <;> cases r' <;> first | rfl | (cases f; done) | (cases f'; done) | skip
  all_goals first | (show (_ == _) = decide (_ = _); rw [Bool.eq_iff_iff]; simp; done) | skip
theorem in_rep {H : Hp} {x : PV} {v : V} (rx : Rep K H x v) (fx : flatP x = true) {ps : List PV} : ∀ {vs : List V}, Reps K H ps vs → ps.all flatP = true → inV v vs = inL x ps := by
  induction ps with
  | nil => intro vs r _; cases r; rfl
  | cons p ps ih =>
    intro vs r f
    cases r with
    | cons a b =>
      rw [List.all_cons, Bool.and_eq_true] at f
      show (eqV _ v || inV v _) = (flEq p x || inL x ps)
      rw [flat_eq a rx f.1 fx, ih b f.2]
theorem inL_strs {x : Str} : ∀ {ns : List Str}, inL (.str x) (ns.map PV.str) = decide (x ∈ ns)
  | [] => rfl
  | n :: ns => by
    show (decide (n = x) || inL (.str x) (ns.map PV.str)) = _
    rw [inL_strs, Bool.eq_iff_iff]
    simp [@eq_comm _ n x]
theorem inL_ints {x : Int} : ∀ {ns : List Int}, inL (.int x) (ns.map PV.int) = decide (x ∈ ns)
  | [] => rfl
  | n :: ns => by
    show (decide (n = x) || inL (.int x) (ns.map PV.int)) = _
    rw [inL_ints, Bool.eq_iff_iff]
    simp [@eq_comm _ n x]
theorem all_strs {ns : List Str} : (ns.map PV.str).all flatP = true := by simp [flatP]
theorem all_ints {ns : List Int} : (ns.map PV.int).all flatP = true := by simp [flatP]
def inP (K : Kf) (neg : Bool) : R2p := fun x y M Q => match y with
  | .tup l => flatP x = true ∧ l.all flatP = true ∧ ∃ b, inL x l = b ∧ Q (.bl (if neg then !b else b)) M
  | .ref a => ∃ l, rdL K M a l ∧ flatP x = true ∧ l.all flatP = true ∧ ∃ b, inL x l = b ∧ Q (.bl (if neg then !b else b)) M
  | _ => False
theorem in_sim {neg : Bool} : SimR K (rIn K neg) (inP K neg) := fun x y H px py M Q Qp rx ry m u k => by
  cases ry with
  | tup h r =>
    obtain ⟨f1, f2, b, e, q⟩ := u
    refine ⟨_, _, rfl, .inr h.t, flat_rep rx f1, flat_reps r f2, ?_⟩
    rw [in_rep rx f1 r f2, e]
    exact k _ _ _ _ (Tk.refl _ _) m (.bl _) q
  | ref a =>
    obtain ⟨l, h, f1, f2, b, e, q⟩ := u
    obtain ⟨vs, e1, r⟩ := h.to m
    refine ⟨_, _, rfl, .inl e1, flat_rep rx f1, flat_reps r f2, ?_⟩
    rw [in_rep rx f1 r f2, e]
    exact k _ _ _ _ (Tk.refl _ _) m (.bl _) q
  | _ => exact u.elim
theorem opIn (hK : X.K = K := by rfl) : OpP X (compareOp .In) (inP K false) := hK ▸ ⟨_, op_in_seq, in_sim⟩
theorem opNotIn (hK : X.K = K := by rfl) : OpP X (compareOp .NotIn) (inP K true) := hK ▸ ⟨_, op_notIn_seq, in_sim⟩
/-! ### isinstance of several -/
def isiTs (t : String) (ns : List String) : Bool := ns.any (isiT t)
theorem kit_any {K : Kf} {t : String} : ∀ {ns : List String}, ns.all (isiKit t) = true → PySem.W.kitAny K (.type t) (ns.map Value.type) = some (isiTs t ns)
  | [], _ => rfl
  | n :: ns, h => by
    rw [List.all_cons, Bool.and_eq_true] at h
    refine kitAny_cons (kit_ty (kit_isi h.1)) (fun e => ?_) fun e => ?_
    · rw [kit_any h.2]
      show some (isiTs t ns) = some (isiT t n || isiTs t ns)
      rw [e]; rfl
    · show (isiT t n || isiTs t ns) = true
      rw [e]; rfl
def isiTP (K : Kf) : RCp := fun xs M Q => match xs with
  | [x, .tup cs] => ∃ t ns, tyName K M x t ∧ cs = ns.map PV.ty ∧ ns.all (isiKit t) = true ∧ Q (.bl (isiTs t ns)) M
  | _ => False
theorem reps_tys {H : Hp} : ∀ {ns : List String} {vs : List V}, Reps K H (ns.map PV.ty) vs → Paired ClsV vs (ns.map Value.type)
  | [], _, .nil => .nil
  | _ :: _, _, .cons (.ty _) r => .cons (.ty _) (reps_tys r)
def rIsiTu (K : Kf) : List V → Hp → VK → Prop := fun xs H Q => ∃ (x : V) (tp : Addr) (cs : List V) (t : Value) (us : List Value) (b : Bool), xs = [x, .ref tp] ∧ SqT K H tp cs ∧ Paired ClsV cs us ∧ TyX K H x t ∧ PySem.W.kitAny K t us = some b ∧ Q (.bl b) H
theorem call_isiTu : CallR X (.builtin "isinstance") (rIsiTu X.K) := by
  rintro pins s σ H xs us Q I r ⟨x, tp, cs, t, ws, b, rfl, there, cls, ty, e, q⟩
  obtain ⟨ux, ut, rfl, rx, rt⟩ := vals2 r
  cases (show ut = Value.ref tp from rt)
  obtain ⟨P, Z, p, hx⟩ := kit_of I rx ty
  obtain ⟨its, rv, ⟨⟨oc, od, dt, sl⟩, at_tp, hc, n, hd⟩, _⟩ := I.tuple there
  obtain rfl := ClsV.all cls rv
  simp only at hc hd
  subst hc hd
  exact PySem.W.kia_tup Z I.kIn p at_tp e hx fun tk => ⟨.bl b, H, I.tok tk, rfl, q⟩
theorem cIsiT : CallP X (.builtin "isinstance") (isiTP X.K) := by
  refine ⟨_, call_isiTu, fun xs H ps M Q Qp rs m u k => ?_⟩
  cases rs with
  | nil => exact u.elim
  | cons r rr => cases rr with
    | nil => exact u.elim
    | cons r2 rr2 => cases rr2 with
      | cons _ _ => cases r2 <;> exact u.elim
      | nil => cases r2 with
        | tup h r3 =>
          obtain ⟨t, ns, h1, rfl, h2, q⟩ := u
          exact ⟨_, _, _, _, _, _, rfl, h.t, reps_tys r3, tyX_of m r h1, kit_any h2, k _ _ _ _ (Tk.refl _ _) m (.bl _) q⟩
        | _ => exact u.elim
theorem cIsiTK (hK : X.K = K := by rfl) : CallP X (.builtin "isinstance") (isiTP K) := hK ▸ cIsiT
/-! ### str(n) -/
def strIP : RCp := fun xs M Q => match xs with
  | [.int i] => i.natAbs.log2 < 1920 ∧ Q (.str (toString i)) M
  | _ => False
theorem cStr : CallP X (.type "str") strIP := by
  refine ⟨_, call_str_int, fun xs H ps M Q Qp rs m u k => ?_⟩
  cases rs with
  | nil => exact u.elim
  | cons r rr => cases rr with
    | cons _ _ => cases r <;> exact u.elim
    | nil => cases r with
      | int i => exact ⟨i, rfl, u.1, k _ _ _ _ (Tk.refl _ _) m (.str _) u.2⟩
      | _ => exact u.elim
/-! ### xs.pop(i) -/
def popAtP : RMp := fun x ps M Q => match x, ps with
  | .ref a, [.int i] => ∃ l y n, M a = some (.lst l) ∧ 0 ≤ i ∧ i < (l.length : Int) ∧ l.length ≤ sizeLine ∧ n = i.toNat ∧ l[n]? = some y ∧ Q y (updM M a (.lst (l.eraseIdx n)))
  | _, _ => False
theorem Reps.eraseIdx {H : Hp} : ∀ {ps : List PV} {vs : List V} (i : Nat), Reps K H ps vs → Reps K H (ps.eraseIdx i) (vs.eraseIdx i)
  | _, _, _, .nil => .nil
  | _, _, 0, .cons _ t => t
  | _, _, i + 1, .cons r t => .cons r (Reps.eraseIdx i t)
theorem mPopAt : MtP X "list.pop" popAtP := by
  refine ⟨_, mt_popAt, fun x xs H px ps M Q Qp rx rs m u k => ?_⟩
  cases rx with
  | ref a => cases rs with
    | nil => exact u.elim
    | cons r rr => cases rr with
      | cons _ _ => cases r <;> exact u.elim
      | nil => cases r with
        | int i =>
          obtain ⟨l, y, n, h, i0, i1, hz, rfl, hy, q⟩ := u
          obtain ⟨vs, e, rv⟩ := m _ _ h
          obtain ⟨v, e2, r2⟩ := rv.get hy
          obtain ⟨tk, mm⟩ := Tk_set (l := l) m e (rv.eraseIdx i.toNat)
          have hs : l.length < 2 ^ 62 := by
            have z : (sizeLine : Nat) < 2 ^ 62 := by rw [sizeLine_eq]; decide
            omega
          refine ⟨_, _, i, i.toNat, v, rfl, rfl, e, by omega, by omega, ?_, e2, k _ _ _ _ tk mm (r2.mono tk) q⟩
          rw [← rv.length]
          exact (ixN_seq (j := i.toNat) (by unfold ixN; rw [if_pos i0, if_pos i1])).1
        | _ => exact u.elim
  | _ => cases rs with
    | nil => exact u.elim
    | cons r rr => cases rr <;> exact u.elim
end
end PL

set_option Elab.async false
set_option linter.all false
set_option maxRecDepth 100000
set_option maxHeartbeats 2000000
/-! PL10: comprehensions with any targets, two fors; ranges as lists; sorted. -/
namespace PL
open PySem L2
section
variable {X : Cx} {H0 : Hp} {pos : Pos} {K : Kf}
/-! ### targets of a comprehension -/
abbrev Mt := PV → Option (List (Nat × PV))
abbrev Mts := List PV → Option (List (Nat × PV))
@[reducible] def setsP (σ : PSt) : List (Nat × PV) → PSt
  | [] => σ
  | a :: r => setsP (σ.set a.1 (some a.2)) r
def setsV (σ : L2.St) : List (Nat × V) → L2.St
  | [] => σ
  | a :: r => setsV (σ.set a.1 (some a.2)) r
inductive RepAs (K : Kf) (H : Hp) : List (Nat × PV) → List (Nat × V) → Prop
  | nil : RepAs K H [] []
  | cons {j p v as us} : Rep K H p v → RepAs K H as us → RepAs K H ((j, p) :: as) ((j, v) :: us)
theorem RepAs.append {H : Hp} {as : List (Nat × PV)} {us : List (Nat × V)} (h : RepAs K H as us) {bs : List (Nat × PV)} {ws : List (Nat × V)} (h2 : RepAs K H bs ws) : RepAs K H (as ++ bs) (us ++ ws) := by
  induction h with
  | nil => exact h2
  | cons a _ ih => exact .cons a ih
theorem RepAs.rel {H : Hp} {as : List (Nat × PV)} {us : List (Nat × V)} (h : RepAs K H as us) : ∀ {σp : PSt} {σ : L2.St}, RelS K H σp σ → RelS K H (setsP σp as) (setsV σ us) := by
  induction h with
  | nil => intro _ _ s; exact s
  | cons a _ ih => intro _ _ s; exact ih (s.set a _)
theorem setsV_append (σ : L2.St) (us ws : List (Nat × V)) : setsV σ (us ++ ws) = setsV (setsV σ us) ws := by
  induction us generalizing σ with
  | nil => rfl
  | cons a r ih => exact ih _
theorem RepAs.wipes {H : Hp} {as : List (Nat × PV)} {us : List (Nat × V)} (h : RepAs K H as us) {vs : List Nat} (ins : ∀ a ∈ as, a.1 ∈ vs) : ∀ σ : L2.St, L2.wipe (setsV σ us) vs = L2.wipe σ vs := by
  induction h with
  | nil => intro σ; rfl
  | @cons j p v as us a _ ih =>
    intro σ
    show L2.wipe (setsV (σ.set j (some v)) us) vs = _
    rw [ih fun b hb => ins b (List.mem_cons_of_mem _ hb)]
    exact wipe_set _ _ _ _ (ins (j, p) List.mem_cons_self)
structure TgOk (K : Kf) (g : TG) (mt : Mt) (vs : List Nat) : Prop where
  ok : ∀ p v H σ as Q, Rep K H p v → mt p = some as → (∀ us, RepAs K H as us → Q (setsV σ us) H) → g v σ H Q
  ins : ∀ p as, mt p = some as → ∀ a ∈ as, a.1 ∈ vs
structure TgsOk (K : Kf) (g : TGs) (mt : Mts) (vs : List Nat) : Prop where
  ok : ∀ p v H σ as Q, Reps K H p v → mt p = some as → (∀ us, RepAs K H as us → Q (setsV σ us) H) → g v σ H Q
  ins : ∀ p as, mt p = some as → ∀ a ∈ as, a.1 ∈ vs
@[reducible] def mtName (j : Nat) : Mt := fun p => some [(j, p)]
@[reducible] def mtNil : Mts := fun l => match l with | [] => some [] | _ => none
@[reducible] def mtCons (m : Mt) (ms : Mts) : Mts := fun l => match l with
  | [] => none
  | p :: r => match m p, ms r with | some a, some b => some (a ++ b) | _, _ => none
@[reducible] def mtTup (n : Nat) (ms : Mts) : Mt := fun p => match p with | .tup l => if l.length = n then ms l else none | _ => none
theorem tgName {j : Nat} {vs : List Nat} (h : j ∈ vs) : TgOk K (L2.gName j) (mtName j) vs where
  ok := fun p v H σ as Q r e k => by
    cases e
    exact k [(j, v)] (.cons r .nil)
  ins := fun p as e a ha => by
    cases e
    rw [List.mem_singleton] at ha
    subst ha; exact h
theorem tgsNil {vs : List Nat} : TgsOk K L2.gNil mtNil vs where
  ok := fun p v H σ as Q r e k => by
    cases r with
    | nil => cases e; exact ⟨rfl, k [] .nil⟩
    | cons _ _ => cases e
  ins := fun p as e a ha => by
    cases p with
    | nil => cases e; cases ha
    | cons _ _ => cases e
theorem tgsCons {g : TG} {gs : TGs} {m : Mt} {ms : Mts} {vs : List Nat} (h1 : TgOk K g m vs) (h2 : TgsOk K gs ms vs) : TgsOk K (L2.gCons g gs) (mtCons m ms) vs where
  ok := fun p v H σ as Q r e k => by
    cases r with
    | nil => cases e
    | @cons p v ps vs' r rr =>
      simp only [mtCons] at e
      cases ea : m p with
      | none => rw [ea] at e; cases e
      | some a =>
        cases eb : ms ps with
        | none => rw [ea, eb] at e; cases e
        | some b =>
          rw [ea, eb] at e
          cases e
          refine ⟨_, _, rfl, h1.ok p v H σ a _ r ea fun us hu => h2.ok ps vs' H _ b _ rr eb fun ws hw => ?_⟩
          rw [← setsV_append]
          exact k _ (hu.append hw)
  ins := fun p as e x hx => by
    cases p with
    | nil => cases e
    | cons p ps =>
      simp only [mtCons] at e
      cases ea : m p with
      | none => rw [ea] at e; cases e
      | some a =>
        cases eb : ms ps with
        | none => rw [ea, eb] at e; cases e
        | some b =>
          rw [ea, eb] at e
          cases e
          rcases List.mem_append.mp hx with q | q
          · exact h1.ins _ _ ea _ q
          · exact h2.ins _ _ eb _ q
theorem tgTup {n : Nat} {gs : TGs} {ms : Mts} {vs : List Nat} (h : TgsOk K gs ms vs) : TgOk K (L2.gTup K n gs) (mtTup n ms) vs where
  ok := fun p v H σ as Q r e k => by
    cases r with
    | tup hs rr =>
      simp only [mtTup] at e
      split at e
      · next hl => exact ⟨_, _, rfl, hs.t, by rw [← rr.length]; exact hl, h.ok _ _ H σ as Q rr e k⟩
      · cases e
    | _ => cases e
  ins := fun p as e x hx => by
    cases p with
    | tup l =>
      simp only [mtTup] at e
      split at e
      · exact h.ins _ _ e _ hx
      · cases e
    | _ => cases e
/-- one for, any target -/
@[reducible] def LcIn (mt : Mt) (tt : TTp) (te : TEp) (vs : List Nat) (σ : PSt) (Q : PVK) (items : List PV) (keep : PHp → Prop) (M1 : PHp) : Prop := ∀ Dl, M1 Dl = none → ∃ I : Nat → List PV → PHp → Prop, (∃ M5, Sub M5 (updM M1 Dl (.lst [])) ∧ I 0 [] M5) ∧
  (∀ i acc M, I i acc M → keep M) ∧ (∀ i x acc M, items[i]? = some x → I i acc M → ∃ as, mt x = some as ∧ LcTurn vs σ tt te Dl acc (I (i + 1)) (setsP (wipeP σ vs) as) M) ∧ ∀ acc M, I items.length acc M → Q (.ref Dl) M
@[reducible] def tLcG (wi : TIp) (mt : Mt) (tt : TTp) (te : TEp) (vs : List Nat) : TEp := fun σ M Q => wi σ M (LcIn mt tt te vs σ Q)
theorem lcR_conc {g : TG} {mt : Mt} {vs : List Nat} {wi : TIp} {tt : TTp} {te : TEp} (hg : TgOk K g mt vs) {R : PSt → PVK → List PV → (PHp → Prop) → PHp → Prop} (hR : ∀ σ Q items keep M1, R σ Q items keep M1 → LcIn mt tt te vs σ Q items keep M1)
    {σ : L2.St} {H : Hp} {Q : VK} (h : concE K H0 (fun σ M Q => wi σ M (R σ Q)) σ H Q) :
    L2.tLc (concI K H0 wi) g (concT K H0 tt) (concE K H0 te) vs σ H Q := by
  obtain ⟨σp, M, Qp, t, s, m, u, k⟩ := h
  refine ⟨σp, M, _, t, s, m, u, fun J H1 items keep M1 t1 m1 it u1 Dl hD => ?_⟩
  obtain ⟨I, ⟨M50, sb0, h0⟩, hk, hs, hd⟩ := hR _ _ _ _ _ u1 Dl (m1.fresh hD)
  have tn : Tk K H1 (upd H1 Dl (.lst [])) := .new hD
  have mn : RelM K (upd H1 Dl (.lst [])) (updM M1 Dl (.lst [])) := m1.put (m := .lst []) tn ⟨[], upd_same, .nil⟩
  refine ⟨fun i n H' => n = items.length - i ∧ i ≤ items.length ∧ ∃ acc Mq, Tk K H1 H' ∧ RelM K H' Mq ∧ I i acc Mq, ⟨_, rfl, Nat.zero_le _, [], M50, tn, mn.sub sb0, h0⟩, ?_⟩
  rintro i n H' ⟨rfl, hi, acc, Mq, tq, mq, hI⟩
  by_cases hlt : i < items.length
  · refine .inr ⟨it.go i H' Mq tq mq (hk _ _ _ hI) hlt, fun H2 => i + 1 ≤ items.length ∧ ∃ acc Mq, Tk K H1 H2 ∧ RelM K H2 Mq ∧ I (i + 1) acc Mq, fun H2 h => ⟨items.length - (i + 1), by omega, rfl, h.1, h.2⟩, fun x H2 y => ?_⟩
    obtain ⟨p, e1, r1, t2, mm⟩ := it.yld i H' Mq x H2 tq mq (hk _ _ _ hI) hlt y
    obtain ⟨as, ea, turn⟩ := hs i p acc Mq e1 hI
    refine hg.ok p x H2 _ as _ r1 ea fun us hu => ?_
    refine ⟨(hu.wipes (hg.ins _ _ ea) _).trans (wipe_wipe _ _), setsP (wipeP σp vs) as, Mq, _, t.trans (t1.trans (tq.trans t2)), hu.rel ((s.mono (t1.trans (tq.trans t2))).wipe _), mm _ mq, turn, fun b H3 M3 t3 m3 u3 => br_imp u3 (fun q => ?_) fun q => ?_⟩
    · refine ⟨_, M3, _, t.trans (t1.trans (tq.trans (t2.trans t3))), (hu.rel ((s.mono (t1.trans (tq.trans t2))).wipe _)).mono t3, m3, q, fun v H4 p4 M4 t4 m4 r4 q4 => ?_⟩
      obtain ⟨q1, q2, M5, sb, q5⟩ := q4
      obtain ⟨vs4, e4, r5⟩ := m4 _ _ q1
      obtain ⟨tk, m6⟩ := Tk_set (l := acc) m4 e4 (r5.snoc r4)
      exact ⟨vs4, e4, by rw [← r5.length]; exact q2, hlt, _, M5, tq.trans (t2.trans (t3.trans (t4.trans tk))), m6.sub sb, q5⟩
    · obtain ⟨M5, sb, q5⟩ := q
      exact ⟨hlt, _, M5, tq.trans (t2.trans t3), m3.sub sb, q5⟩
  · have e : i = items.length := by omega
    subst e
    exact .inl ⟨it.stop H' Mq tq mq (hk _ _ _ hI), k _ _ _ _ (t1.trans tq) mq (.ref Dl) (hd _ _ hI)⟩
theorem lcG_conc {g : TG} {mt : Mt} {vs : List Nat} {wi : TIp} {tt : TTp} {te : TEp} (hg : TgOk K g mt vs) {σ : L2.St} {H : Hp} {Q : VK} (h : concE K H0 (tLcG wi mt tt te vs) σ H Q) :
    L2.tLc (concI K H0 wi) g (concT K H0 tt) (concE K H0 te) vs σ H Q := lcR_conc hg (R := LcIn mt tt te vs) (fun _ _ _ _ _ h => h) h
/-- two fors -/
@[reducible] def Lc2In (vs1 : List Nat) (wi1 : TIp) (mt1 : Mt) (tt1 : TTp) (te : TEp) (Dl : Addr) (σ2 : PSt) (acc : List PV) (I : List PV → PHp → Prop) (M : PHp) : Prop := wi1 σ2 M fun items1 keep1 M4 => ∃ I1 : Nat → List PV → PHp → Prop, (∃ M5, Sub M5 M4 ∧ I1 0 acc M5) ∧
  (∀ i acc M, I1 i acc M → keep1 M) ∧ (∀ i x acc1 M, items1[i]? = some x → I1 i acc1 M → ∃ as, mt1 x = some as ∧ LcTurn vs1 σ2 tt1 te Dl acc1 (I1 (i + 1)) (setsP (wipeP σ2 vs1) as) M) ∧ ∀ acc1 M, I1 items1.length acc1 M → ∃ M7, Sub M7 M ∧ I acc1 M7
@[reducible] def tLc2 (wi : TIp) (mt : Mt) (tt : TTp) (wi1 : TIp) (mt1 : Mt) (tt1 : TTp) (te : TEp) (vs vs1 : List Nat) : TEp := fun σ M Q => wi σ M fun items keep M1 => ∀ Dl, M1 Dl = none → ∃ I : Nat → List PV → PHp → Prop, (∃ M5, Sub M5 (updM M1 Dl (.lst [])) ∧ I 0 [] M5) ∧
  (∀ i acc M, I i acc M → keep M) ∧ (∀ i x acc M, items[i]? = some x → I i acc M → ∃ as, mt x = some as ∧ tt (setsP (wipeP σ vs) as) M fun b M3 => br b (Lc2In vs1 wi1 mt1 tt1 te Dl (setsP (wipeP σ vs) as) acc (I (i + 1)) M3) (∃ M5, Sub M5 M3 ∧ I (i + 1) acc M5)) ∧
  ∀ acc M, I items.length acc M → Q (.ref Dl) M
theorem lc2_conc {g g1 : TG} {mt mt1 : Mt} {vs vs1 : List Nat} {wi wi1 : TIp} {tt tt1 : TTp} {te : TEp} (hg : TgOk K g mt vs) (hg1 : TgOk K g1 mt1 vs1) {σ : L2.St} {H : Hp} {Q : VK} (h : concE K H0 (tLc2 wi mt tt wi1 mt1 tt1 te vs vs1) σ H Q) :
    L2.tLc2 (concI K H0 wi) g (concT K H0 tt) (concI K H0 wi1) g1 (concT K H0 tt1) (concE K H0 te) vs vs1 σ H Q := by
  obtain ⟨σp, M, Qp, t, s, m, u, k⟩ := h
  refine ⟨σp, M, _, t, s, m, u, fun J H1 items keep M1 t1 m1 it u1 Dl hD => ?_⟩
  obtain ⟨I, ⟨M50, sb0, h0⟩, hk, hs, hd⟩ := u1 Dl (m1.fresh hD)
  have tn : Tk K H1 (upd H1 Dl (.lst [])) := .new hD
  have mn : RelM K (upd H1 Dl (.lst [])) (updM M1 Dl (.lst [])) := m1.put (m := .lst []) tn ⟨[], upd_same, .nil⟩
  refine ⟨fun i n H' => n = items.length - i ∧ i ≤ items.length ∧ ∃ acc Mq, Tk K H1 H' ∧ RelM K H' Mq ∧ I i acc Mq, ⟨_, rfl, Nat.zero_le _, [], M50, tn, mn.sub sb0, h0⟩, ?_⟩
  rintro i n H' ⟨rfl, hi, acc, Mq, tq, mq, hI⟩
  by_cases hlt : i < items.length
  · refine .inr ⟨it.go i H' Mq tq mq (hk _ _ _ hI) hlt, fun H2 => i + 1 ≤ items.length ∧ ∃ acc Mq, Tk K H1 H2 ∧ RelM K H2 Mq ∧ I (i + 1) acc Mq, fun H2 h => ⟨items.length - (i + 1), by omega, rfl, h.1, h.2⟩, fun x H2 y => ?_⟩
    obtain ⟨p, e1, r1, t2, mm⟩ := it.yld i H' Mq x H2 tq mq (hk _ _ _ hI) hlt y
    obtain ⟨as, ea, turn⟩ := hs i p acc Mq e1 hI
    refine hg.ok p x H2 _ as _ r1 ea fun us hu => ?_
    have s2 := hu.rel ((s.mono (t1.trans (tq.trans t2))).wipe vs)
    refine ⟨(hu.wipes (hg.ins _ _ ea) _).trans (wipe_wipe _ _), setsP (wipeP σp vs) as, Mq, _, t.trans (t1.trans (tq.trans t2)), s2, mm _ mq, turn, fun b H3 M3 t3 m3 u3 => br_imp u3 (fun q => ?_) fun q => ?_⟩
    · have T3 := t1.trans (tq.trans (t2.trans t3))
      refine ⟨_, M3, _, t.trans T3, s2.mono t3, m3, q, fun J1 H4 items1 keep1 M4 t4 m4 it1 u4 => ?_⟩
      obtain ⟨I1, ⟨M51, sb1, g0⟩, gk, gs, gd⟩ := u4
      refine ⟨fun j n H' => n = items1.length - j ∧ j ≤ items1.length ∧ ∃ acc Mq, Tk K H4 H' ∧ RelM K H' Mq ∧ I1 j acc Mq, ⟨_, rfl, Nat.zero_le _, acc, M51, Tk.refl _ _, m4.sub sb1, g0⟩, ?_⟩
      rintro j n' H5 ⟨rfl, hj, acc1, Mr, tr, mr, hI1⟩
      by_cases hlt1 : j < items1.length
      · refine .inr ⟨it1.go j H5 Mr tr mr (gk _ _ _ hI1) hlt1, fun H2 => j + 1 ≤ items1.length ∧ ∃ acc Mq, Tk K H4 H2 ∧ RelM K H2 Mq ∧ I1 (j + 1) acc Mq, fun H2 h => ⟨items1.length - (j + 1), by omega, rfl, h.1, h.2⟩, fun x1 H6 y1 => ?_⟩
        obtain ⟨p1, e2, r2, t6, mm6⟩ := it1.yld j H5 Mr x1 H6 tr mr (gk _ _ _ hI1) hlt1 y1
        obtain ⟨as1, ea1, turn1⟩ := gs j p1 acc1 Mr e2 hI1
        refine hg1.ok p1 x1 H6 _ as1 _ r2 ea1 fun us1 hu1 => ?_
        have s6 := hu1.rel ((s2.mono (t3.trans (t4.trans (tr.trans t6)))).wipe vs1)
        refine ⟨(hu1.wipes (hg1.ins _ _ ea1) _).trans (wipe_wipe _ _), _, Mr, _, t.trans (T3.trans (t4.trans (tr.trans t6))), s6, mm6 _ mr, turn1, fun b H7 M7 t7 m7 u7 => br_imp u7 (fun q7 => ?_) fun q7 => ?_⟩
        · refine ⟨_, M7, _, t.trans (T3.trans (t4.trans (tr.trans (t6.trans t7)))), s6.mono t7, m7, q7, fun v H8 p8 M8 t8 m8 r8 q8 => ?_⟩
          obtain ⟨q1, q2, M5, sb, q5⟩ := q8
          obtain ⟨vs4, e4, r5⟩ := m8 _ _ q1
          obtain ⟨tk, m6⟩ := Tk_set (l := acc1) m8 e4 (r5.snoc r8)
          exact ⟨vs4, e4, by rw [← r5.length]; exact q2, hlt1, _, M5, tr.trans (t6.trans (t7.trans (t8.trans tk))), m6.sub sb, q5⟩
        · obtain ⟨M5, sb, q5⟩ := q7
          exact ⟨hlt1, _, M5, tr.trans (t6.trans t7), m7.sub sb, q5⟩
      · have e : j = items1.length := by omega
        subst e
        obtain ⟨M7, sb, q5⟩ := gd _ _ hI1
        exact .inl ⟨it1.stop H5 Mr tr mr (gk _ _ _ hI1), hlt, _, M7, tq.trans (t2.trans (t3.trans (t4.trans tr))), mr.sub sb, q5⟩
    · obtain ⟨M5, sb, q5⟩ := q
      exact ⟨hlt, _, M5, tq.trans (t2.trans t3), m3.sub sb, q5⟩
  · have e : i = items.length := by omega
    subst e
    exact .inl ⟨it.stop H' Mq tq mq (hk _ _ _ hI), k _ _ _ _ (t1.trans tq) mq (.ref Dl) (hd _ _ hI)⟩
section
variable {elt iter tg iter1 tg1 : Expr} {ifs ifs1 : List Expr} {scope : Scope} {own : List (Str × Nat)} {wi wi1 : TIp} {tt tt1 : TTp} {te : TEp} {g g1 : TG} {mt mt1 : Mt}
theorem plcG (hc : X.calm = true) (hN : X.N.Nodup) (hi : PIp' X H0 tg iter wi) (ok : BlkOk X.N X.env.scope scope own) (hm : TgOk X.K g mt (own.map (·.2)))
    (hg : ∀ (s : Shared) (H : Hp) (C : Addr) (cl : List (Str × Addr)) (fp : List Addr), PG (X.blk s H scope (compEnvC scope cl C X.env) fp) tg g)
    (ht : ∀ (s : Shared) (H : Hp) (C : Addr) (cl : List (Str × Addr)) (fp : List Addr), PTsp (X.blk s H scope (compEnvC scope cl C X.env) fp) H0 ifs tt)
    (he : ∀ (s : Shared) (H : Hp) (C : Addr) (cl : List (Str × Addr)) (fp : List Addr), PEp (X.blk s H scope (compEnvC scope cl C X.env) fp) H0 elt te) (hs : ∀ x, foldedSetIterable iter X.env x = pure x := by intro _; rfl) :
    PEp X H0 (.ListComp elt [⟨tg, iter, ifs, 0⟩] scope pos) (tLcG wi mt tt te (own.map (·.2))) :=
  peW (pe_lc (tt := concT X.K H0 tt) (te := concE X.K H0 te) hc hN hi ok hg ht he hs) fun σ H Q h => lcG_conc hm h
theorem pssetlcG (i : Nat) {y : Str} {py spos : Pos} (hc : X.calm = true) (hN : X.N.Nodup) (hyl : X.env.scope.names.lookup y = some .local)
    (hsw : swapsWith (.ListComp elt [⟨tg, iter, ifs, 0⟩] scope pos) (some (.Name y py)) spos.line X.env = pure true) (hi : PIp' X H0 tg iter wi) (ok : BlkOk X.N X.env.scope scope own) (hm : TgOk X.K g mt (own.map (·.2)))
    (hg : ∀ (s : Shared) (H : Hp) (C : Addr) (cl : List (Str × Addr)) (fp : List Addr), PG (X.blk s H scope (compEnvC scope cl C X.env) fp) tg g)
    (ht : ∀ (s : Shared) (H : Hp) (C : Addr) (cl : List (Str × Addr)) (fp : List Addr), PTsp (X.blk s H scope (compEnvC scope cl C X.env) fp) H0 ifs tt)
    (he : ∀ (s : Shared) (H : Hp) (C : Addr) (cl : List (Str × Addr)) (fp : List Addr), PEp (X.blk s H scope (compEnvC scope cl C X.env) fp) H0 elt te) (hy : X.N[i]? = some y := by rfl) (hs : ∀ x, foldedSetIterable iter X.env x = pure x := by intro _; rfl) :
    PSp' X H0 (.Assign [.Name y py] (.ListComp elt [⟨tg, iter, ifs, 0⟩] scope pos) spos) (tAsg (tLcG wi mt tt te (own.map (·.2))) (gName i)) :=
  psW (ps_setLc (tt := concT X.K H0 tt) (te := concE X.K H0 te) hc hN hy hyl hsw hi ok hg ht he hs) fun D σ H ⟨σp, M, Dp, t, s, m, u, k⟩ =>
    lcG_conc hm ⟨σp, M, _, t, s, m, u, fun v H1 p M1 t1 m1 r u1 => k.nx _ _ _ _ t1 ((s.mono t1).set r i) m1 u1⟩
theorem plc2 (vs1 : List Nat) (hc : X.calm = true) (hN : X.N.Nodup) (hi : PIp' X H0 tg iter wi) (ok : BlkOk X.N X.env.scope scope own) (hm : TgOk X.K g mt (own.map (·.2))) (hv : ∀ i ∈ vs1, i ∈ own.map (·.2)) (hm1 : TgOk X.K g1 mt1 vs1)
    (hg : ∀ (s : Shared) (H : Hp) (C : Addr) (cl : List (Str × Addr)) (fp : List Addr), PG (X.blk s H scope (compEnvC scope cl C X.env) fp) tg g)
    (ht : ∀ (s : Shared) (H : Hp) (C : Addr) (cl : List (Str × Addr)) (fp : List Addr), PTsp (X.blk s H scope (compEnvC scope cl C X.env) fp) H0 ifs tt)
    (hi1 : ∀ (s : Shared) (H : Hp) (C : Addr) (cl : List (Str × Addr)) (fp : List Addr), PIp' (X.blk s H scope (compEnvC scope cl C X.env) fp) H0 tg1 iter1 wi1)
    (hgB : ∀ (s : Shared) (H : Hp) (C : Addr) (cl : List (Str × Addr)) (fp : List Addr), PG (X.blk s H scope (compEnvC scope cl C X.env) fp) tg1 g1)
    (ht1 : ∀ (s : Shared) (H : Hp) (C : Addr) (cl : List (Str × Addr)) (fp : List Addr), PTsp (X.blk s H scope (compEnvC scope cl C X.env) fp) H0 ifs1 tt1)
    (he : ∀ (s : Shared) (H : Hp) (C : Addr) (cl : List (Str × Addr)) (fp : List Addr), PEp (X.blk s H scope (compEnvC scope cl C X.env) fp) H0 elt te) (hs : ∀ x, foldedSetIterable iter X.env x = pure x := by intro _; rfl) (hs1 : ∀ env x, foldedSetIterable iter1 env x = pure x := by intro _ _; rfl) :
    PEp X H0 (.ListComp elt [⟨tg, iter, ifs, 0⟩, ⟨tg1, iter1, ifs1, 0⟩] scope pos) (tLc2 wi mt tt wi1 mt1 tt1 te (own.map (·.2)) vs1) :=
  peW (pe_lc2 (tt := concT X.K H0 tt) (tt1 := concT X.K H0 tt1) (wi1 := concI X.K H0 wi1) (te := concE X.K H0 te) hc hN hi ok hv hg ht hi1 hgB ht1 he hs hs1) fun σ H Q h => lc2_conc hm hm1 h
theorem pssetlc2 (i : Nat) (vs1 : List Nat) {y : Str} {py spos : Pos} (hc : X.calm = true) (hN : X.N.Nodup) (hyl : X.env.scope.names.lookup y = some .local)
    (hsw : swapsWith (.ListComp elt [⟨tg, iter, ifs, 0⟩, ⟨tg1, iter1, ifs1, 0⟩] scope pos) (some (.Name y py)) spos.line X.env = pure true) (hi : PIp' X H0 tg iter wi) (ok : BlkOk X.N X.env.scope scope own) (hm : TgOk X.K g mt (own.map (·.2))) (hv : ∀ i ∈ vs1, i ∈ own.map (·.2)) (hm1 : TgOk X.K g1 mt1 vs1)
    (hg : ∀ (s : Shared) (H : Hp) (C : Addr) (cl : List (Str × Addr)) (fp : List Addr), PG (X.blk s H scope (compEnvC scope cl C X.env) fp) tg g)
    (ht : ∀ (s : Shared) (H : Hp) (C : Addr) (cl : List (Str × Addr)) (fp : List Addr), PTsp (X.blk s H scope (compEnvC scope cl C X.env) fp) H0 ifs tt)
    (hi1 : ∀ (s : Shared) (H : Hp) (C : Addr) (cl : List (Str × Addr)) (fp : List Addr), PIp' (X.blk s H scope (compEnvC scope cl C X.env) fp) H0 tg1 iter1 wi1)
    (hgB : ∀ (s : Shared) (H : Hp) (C : Addr) (cl : List (Str × Addr)) (fp : List Addr), PG (X.blk s H scope (compEnvC scope cl C X.env) fp) tg1 g1)
    (ht1 : ∀ (s : Shared) (H : Hp) (C : Addr) (cl : List (Str × Addr)) (fp : List Addr), PTsp (X.blk s H scope (compEnvC scope cl C X.env) fp) H0 ifs1 tt1)
    (he : ∀ (s : Shared) (H : Hp) (C : Addr) (cl : List (Str × Addr)) (fp : List Addr), PEp (X.blk s H scope (compEnvC scope cl C X.env) fp) H0 elt te) (hy : X.N[i]? = some y := by rfl) (hs : ∀ x, foldedSetIterable iter X.env x = pure x := by intro _; rfl) (hs1 : ∀ env x, foldedSetIterable iter1 env x = pure x := by intro _ _; rfl) :
    PSp' X H0 (.Assign [.Name y py] (.ListComp elt [⟨tg, iter, ifs, 0⟩, ⟨tg1, iter1, ifs1, 0⟩] scope pos) spos) (tAsg (tLc2 wi mt tt wi1 mt1 tt1 te (own.map (·.2)) vs1) (gName i)) :=
  psW (ps_setLc2 (tt := concT X.K H0 tt) (tt1 := concT X.K H0 tt1) (wi1 := concI X.K H0 wi1) (te := concE X.K H0 te) hc hN hy hyl hsw hi ok hv hg ht hi1 hgB ht1 he hs hs1) fun D σ H ⟨σp, M, Dp, t, s, m, u, k⟩ =>
    lc2_conc hm hm1 ⟨σp, M, _, t, s, m, u, fun v H1 p M1 t1 m1 r u1 => k.nx _ _ _ _ t1 ((s.mono t1).set r i) m1 u1⟩
end
/-! ### list(range(..)), tuple(range(..)) -/
abbrev TRp := PSt → PHp → (Int → Int → PHp → Prop) → Prop
def concR (K : Kf) (H0 : Hp) (u : TRp) : L2.St → Hp → (Int → Int → Hp → Prop) → Prop := fun σ H Q => ∃ σp M Qp, Tk K H0 H ∧ RelS K H σp σ ∧ RelM K H M ∧ u σp M Qp ∧ ∀ a b H' M', Tk K H H' → RelM K H' M' → Qp a b M' → Q a b H'
abbrev PRp (X : Cx) (H0 : Hp) (e : Expr) (u : TRp) : Prop := PRg X e (concR X.K H0 u)
theorem prW {e : Expr} {t t' : L2.St → Hp → (Int → Int → Hp → Prop) → Prop} (h : PRg X e t) (w : ∀ σ H Q, t' σ H Q → t σ H Q) : PRg X e t' := fun pins s σ H Q I q => h pins s σ H Q I (w _ _ _ q)
@[reducible] def rg1 (ta : TEp) : TRp := fun σ M Q => ta σ M fun x M1 => match x with | .int n => Q 0 n M1 | _ => False
@[reducible] def rg2 (ta tb : TEp) : TRp := fun σ M Q => ta σ M fun x M1 => tb σ M1 fun y M2 => match x, y with | .int i, .int j => Q i j M2 | _, _ => False
variable {a b : Expr} {ta tb : TEp} {tr : TRp}
theorem prg1 {p : Pos} (hg : Gl X "range") (hm : X.mg "range" = none) (ha : PEp X H0 a ta) (na : starEach [a] X.env = (false, eval a X.env) :: starEach [] X.env := by rfl) : PRp X H0 (.Call (.Name "range" p) [a] [] pos) (rg1 ta) :=
  prW (prg_1 hg hm ha na) fun σ H Q ⟨σp, M, Qp, t, s, m, u, k⟩ => ⟨σp, M, _, t, s, m, u, fun x H1 px M1 t1 m1 rx u1 => by
    cases rx with
    | int n => exact ⟨n, rfl, k _ _ _ _ t1 m1 u1⟩
    | _ => exact u1.elim⟩
theorem prg2 {p : Pos} (hg : Gl X "range") (hm : X.mg "range" = none) (ha : PEp X H0 a ta) (hb : PEp X H0 b tb) (na : starEach [a, b] X.env = (false, eval a X.env) :: starEach [b] X.env := by rfl) (nb : starEach [b] X.env = (false, eval b X.env) :: starEach [] X.env := by rfl) (np : (backTo pos (starEach [b] X.env)).any (·.1) = false := by rfl) : PRp X H0 (.Call (.Name "range" p) [a, b] [] pos) (rg2 ta tb) :=
  prW (prg_2 hg hm ha hb na nb np) fun σ H Q ⟨σp, M, Qp, t, s, m, u, k⟩ => ⟨σp, M, _, t, s, m, u, fun x H1 px M1 t1 m1 rx u1 => ⟨σp, M1, _, t.trans t1, s.mono t1, m1, u1, fun y H2 py M2 t2 m2 ry u2 => by
    cases rx with
    | int i => cases ry with
      | int j => exact ⟨i, j, rfl, rfl, k _ _ _ _ (t1.trans t2) m2 u2⟩
      | _ => exact u2.elim
    | _ => exact u2.elim⟩⟩
theorem rgV_rep {H : Hp} (a b : Int) : Reps K H (rng a (b - a).toNat) (rgV a b) := by
  unfold rng rgV
  generalize (b - a).toNat = n
  have : ∀ l : List Nat, Reps K H (l.map fun (i : Nat) => PV.int (a + (i : Int))) (l.map fun i => V.int (a + (i : Nat))) := fun l => by
    induction l with
    | nil => exact .nil
    | cons i l ih => exact .cons (.int _) ih
  exact this _
@[reducible] def tLstRg (tr : TRp) : TEp := fun σ M Q => tr σ M fun a b M1 => RgOk a b ∧ ∀ q, M1 q = none → Q (.ref q) (updM M1 q (.lst (rng a (b - a).toNat)))
@[reducible] def tTupRg (tr : TRp) : TEp := fun σ M Q => tr σ M fun a b M1 => RgOk a b ∧ Q (.tup (rng a (b - a).toNat)) M1
theorem plistRg {e : Expr} {p : Pos} (hc : X.calm = true) (hg : Gl X "list") (hm : X.mg "list" = none) (he : PRp X H0 e tr) (na : starEach [e] X.env = (false, eval e X.env) :: starEach [] X.env := by rfl) : PEp X H0 (.Call (.Name "list" p) [e] [] pos) (tLstRg tr) :=
  peW (pe_listRg hc hg hm he na) fun σ H Q ⟨σp, M, Qp, t, s, m, u, k⟩ => ⟨σp, M, _, t, s, m, u, fun a b H1 M1 t1 m1 u1 => ⟨u1.1, fun q hq => new_lst m1 hq (rgV_rep a b) u1.2 fun v H2 p M2 t2 => k v H2 p M2 (t1.trans t2)⟩⟩
theorem ptupRg {e : Expr} {p : Pos} (hc : X.calm = true) (hg : Gl X "tuple") (hm : X.mg "tuple" = none) (he : PRp X H0 e tr) (na : starEach [e] X.env = (false, eval e X.env) :: starEach [] X.env := by rfl) : PEp X H0 (.Call (.Name "tuple" p) [e] [] pos) (tTupRg tr) :=
  peW (pe_tupRgX hc hg hm he na) fun σ H Q ⟨σp, M, Qp, t, s, m, u, k⟩ => ⟨σp, M, _, t, s, m, u, fun a b H1 M1 t1 m1 u1 => ⟨u1.1, new_tup m1 (rgV_rep a b) u1.2 fun v H2 p M2 t2 => k v H2 p M2 (t1.trans t2)⟩⟩
/-! ### tests by truth -/
def truP (K : Kf) (x : PV) (M : PHp) (Q : Bool → Prop) : Prop := match x with
  | .non => Q false
  | .bl b => Q b
  | .int i => Q (i != 0)
  | .str z => z.length ≤ sizeLine ∧ Q ((z.length : Int) != 0)
  | .tup l => Q (!l.isEmpty)
  | .ref a => ∃ l, rdL K M a l ∧ Q (!l.isEmpty)
  | _ => False
@[reducible] def tTru (K : Kf) (te : TEp) : TTp := fun σ M Q => te σ M fun x M1 => truP K x M1 fun b => Q b M1
theorem Reps.isEmpty {H : Hp} {l : List PV} {vs : List V} (r : Reps K H l vs) : vs.isEmpty = l.isEmpty := by
  cases r <;> rfl
theorem pttru (ha : PEp X H0 a ta) (he : ∀ whole, isTrue a X.env whole = (do let v ← whole; standAt a.pos; holding [v] (truthy v)) := by intro _; rfl) : PTp X H0 a (tTru X.K ta) :=
  ptW (pt_truth ha he) fun σ H Q ⟨σp, M, Qp, t, s, m, u, k⟩ => ⟨σp, M, _, t, s, m, u, fun x H1 px M1 t1 m1 rx u1 => by
    cases rx with
    | non => exact ⟨_, rfl, k _ _ _ t1 m1 u1⟩
    | bl b => exact ⟨_, rfl, k _ _ _ t1 m1 u1⟩
    | int i => exact ⟨_, rfl, k _ _ _ t1 m1 u1⟩
    | str z => exact ⟨_, ⟨u1.1, rfl⟩, k _ _ _ t1 m1 u1.2⟩
    | tup h r => exact ⟨_, .inr (.inl ⟨_, h.t, rfl⟩), by rw [r.isEmpty]; exact k _ _ _ t1 m1 u1⟩
    | ref a =>
      obtain ⟨l, h, q⟩ := u1
      obtain ⟨vs, e, r⟩ := h.to m1
      exact ⟨_, .inl ⟨_, e, rfl⟩, by rw [r.isEmpty]; exact k _ _ _ t1 m1 q⟩
    | _ => exact u1.elim⟩
/-! ### a < b < c -/
theorem pchain {op op' : CmpOp} {r r' : R2p} {c : Expr} {tc : TEp} (ho : OpP X (compareOp op) r) (ho' : OpP X (compareOp op') r') (ha : PEp X H0 a ta) (hb : PEp X H0 b tb) (hc : PEp X H0 c tc)
    (hm : lastMarks [op, op'] [b, c] = false := by with_unfolding_all rfl) : PEp X H0 (.Compare a [op, op'] [b, c] pos) (PL.tChain r r' ta tb tc) := by
  obtain ⟨r0, h1, h2⟩ := ho
  obtain ⟨r1, h3, h4⟩ := ho'
  refine peW (pe_chain h1 h3 ha hb hc hm) fun σ H Q ⟨σp, M, Qp, t, s, m, u, k⟩ => ⟨σp, M, _, t, s, m, u, fun x H1 px M1 t1 m1 rx u1 => ⟨σp, M1, _, t.trans t1, s.mono t1, m1, u1, fun y H2 py M2 t2 m2 ry u2 => ?_⟩⟩
  refine h2 x y H2 px py M2 _ _ (rx.mono t2) ry m2 u2 fun z H3 pz M3 t3 m3 rz u3 => ?_
  cases rz with
  | bl k0 =>
    refine ⟨k0, rfl, br_imp u3 (fun q => ?_) fun q => k _ _ _ _ (t1.trans (t2.trans t3)) m3 (.bl _) q⟩
    exact ⟨σp, M3, _, t.trans (t1.trans (t2.trans t3)), s.mono (t1.trans (t2.trans t3)), m3, q, fun w H4 pw M4 t4 m4 rw u4 => h4 y w H4 py pw M4 _ _ (ry.mono (t3.trans t4)) rw m4 u4 fun v H5 p M5 t5 => k v H5 p M5 (t1.trans (t2.trans (t3.trans (t4.trans t5))))⟩
  | _ => exact u3.elim
theorem ptchain {op op' : CmpOp} {r r' : R2p} {c : Expr} {tc : TEp} (ho : OpP X (compareOp op) r) (ho' : OpP X (compareOp op') r') (ha : PEp X H0 a ta) (hb : PEp X H0 b tb) (hc : PEp X H0 c tc)
    (hm : lastMarks [op, op'] [b, c] = false := by with_unfolding_all rfl) : PTp X H0 (.Compare a [op, op'] [b, c] pos) (tB (PL.tChain r r' ta tb tc)) := by
  obtain ⟨r0, h1, h2⟩ := ho
  obtain ⟨r1, h3, h4⟩ := ho'
  refine ptW (pt_chain h1 h3 ha hb hc hm) fun σ H Q h => ?_
  obtain ⟨σp, M, Qp, t, s, m, u, k⟩ := tB_conc h
  refine ⟨σp, M, _, t, s, m, u, fun x H1 px M1 t1 m1 rx u1 => ⟨σp, M1, _, t.trans t1, s.mono t1, m1, u1, fun y H2 py M2 t2 m2 ry u2 => ?_⟩⟩
  refine h2 x y H2 px py M2 _ _ (rx.mono t2) ry m2 u2 fun z H3 pz M3 t3 m3 rz u3 => ?_
  cases rz with
  | bl k0 =>
    refine ⟨k0, rfl, br_imp u3 (fun q => ?_) fun q => k _ _ _ _ (t1.trans (t2.trans t3)) m3 (.bl _) q⟩
    exact ⟨σp, M3, _, t.trans (t1.trans (t2.trans t3)), s.mono (t1.trans (t2.trans t3)), m3, q, fun w H4 pw M4 t4 m4 rw u4 => h4 y w H4 py pw M4 _ _ (ry.mono (t3.trans t4)) rw m4 u4 fun v H5 p M5 t5 => k v H5 p M5 (t1.trans (t2.trans (t3.trans (t4.trans t5))))⟩
  | _ => exact u3.elim
/-! ### sorted -/
def rSortTu (K : Kf) : List V → Hp → VK → Prop := fun vs H Q => ∃ (a : Addr) (ns : List Int), vs = [V.ref a] ∧ (SqT K H a (ns.map V.int) ∨ SqL K H a (ns.map V.int)) ∧ ∀ (ms : List Int) (p : Addr), ms.Perm ns → ms.Pairwise (· ≤ ·) → H p = none → Q (.ref p) (upd H p (.lst (ms.map V.int)))
theorem cr_sortTu : CallR X (.builtin "sorted") (rSortTu X.K) := by
  rintro pins s σ H vs us Q I r ⟨a, ns, rfl, here, q⟩
  have fin : ∀ (its : List Value) (out : Array Value) (ms : List Int), ns.length ≤ sizeLine → PyProof.Rows.IntsAre out.toList ms → ms.Perm ns → ms.Pairwise (· ≤ ·) → EP X pins σ Q (.ref (s.heap.objs.size + 1)) { s with heap := PyProof.Rows.sortedAll s.heap its out } := fun its out ms few h1 h2 h3 => by
    obtain ⟨ep, at_new⟩ := PyProof.Rows.sortedAll_at s.heap its out
    refine ⟨.ref _, upd H (s.heap.objs.size + 1) (.lst (ms.map V.int)), I.laid (t' := s.toks) (fun _ _ => PyProof.Rows.sortedAll_old) (Nat.le_succ _) ⟨?_, out.toList, ep, vals_of_ints h1, at_new⟩, rfl, q ms _ h2 h3 (I.hok.fresh (Nat.le_succ _))⟩
    rw [List.length_map, h2.length_eq]; exact few
  rw [Vals.ref1 r]
  rcases here with here | here
  · obtain ⟨its, rv, tup, few⟩ := I.tuple here
    rw [List.length_map] at few
    exact PLraw.sorted_tup_ints tup rv.ints (by rw [← rv.length, List.length_map]; exact few) fun out ms h1 h2 h3 => fin its out ms few h1 h2 h3
  · obtain ⟨its, rv, pl, few⟩ := I.list here
    rw [List.length_map] at few
    exact PyProof.Rows.sorted_intsAny pl.isList rv.ints (by rw [← rv.length, List.length_map]; exact few) fun out ms h1 h2 h3 => fin its out ms few h1 h2 h3
/-- whole numbers -/
def sortIP (K : Kf) : RCp := fun xs M Q => ∃ ns : List Int, (match xs with | [.tup l] => l = ns.map PV.int | [.ref a] => rdL K M a (ns.map PV.int) | _ => False) ∧ ∀ (ms : List Int) (p : Addr), ms.Perm ns → ms.Pairwise (· ≤ ·) → M p = none → Q (.ref p) (updM M p (.lst (ms.map PV.int)))
theorem cSortI : CallP X (.builtin "sorted") (sortIP X.K) := by
  refine ⟨_, cr_sortTu, fun xs H ps M Q Qp rs m u k => ?_⟩
  obtain ⟨ns, u, q⟩ := u
  cases rs with
  | nil => exact u.elim
  | cons r rr => cases rr with
    | cons _ _ => cases r <;> exact u.elim
    | nil => cases r with
      | tup h r =>
        subst u
        have e := r.ints
        subst e
        exact ⟨_, ns, rfl, .inl h.t, fun ms p h1 h2 hp => new_lst m hp Reps.of_ints (fun p hp => q ms p h1 h2 hp) k⟩
      | ref a =>
        obtain ⟨vs, e, r⟩ := u.to m
        have e2 := r.ints
        subst e2
        exact ⟨_, ns, rfl, .inr e, fun ms p h1 h2 hp => new_lst m hp Reps.of_ints (fun p hp => q ms p h1 h2 hp) k⟩
      | _ => exact u.elim
theorem cSortIK (hK : X.K = K := by rfl) : CallP X (.builtin "sorted") (sortIP K) := hK ▸ cSortI
theorem g_ins {x : Str} {ns : List Str} {R : Bool → Prop} (q : R (decide (x ∈ ns))) : flatP (.str x) = true ∧ (ns.map PV.str).all flatP = true ∧ ∃ b, inL (.str x) (ns.map PV.str) = b ∧ R b := ⟨rfl, all_strs, _, inL_strs, q⟩
theorem g_ini {x : Int} {ns : List Int} {R : Bool → Prop} (q : R (decide (x ∈ ns))) : flatP (.int x) = true ∧ (ns.map PV.int).all flatP = true ∧ ∃ b, inL (.int x) (ns.map PV.int) = b ∧ R b := ⟨rfl, all_ints, _, inL_ints, q⟩
theorem g_isiL {M : PHp} {a : Addr} {l : List PV} {n : String} {R : String → Prop} (h : M a = some (.lst l)) (hk : isiKit "list" n = true) (q : R "list") : ∃ t, tyName K M (.ref a) t ∧ isiKit t n = true ∧ R t := ⟨"list", .inl ⟨_, h, rfl⟩, hk, q⟩
theorem g_isiD {M : PHp} {a : Addr} {l : List (Key × PV)} {n : String} {R : String → Prop} (h : M a = some (.dK l)) (hk : isiKit "dict" n = true) (q : R "dict") : ∃ t, tyName K M (.ref a) t ∧ isiKit t n = true ∧ R t := ⟨"dict", .inr ⟨_, h, rfl⟩, hk, q⟩
end
end PL

set_option Elab.async false
set_option linter.all false
set_option maxRecDepth 100000
set_option maxHeartbeats 2000000
/-! PL11: comprehensions whose turns leave the heap alone; a tuple's index; slices. -/
namespace PL
open PySem L2
/-- f 0, .., f (n - 1) -/
def mk {α : Type} (n : Nat) (f : Nat → α) : List α := (List.range n).map f
section
variable {α β : Type} {n : Nat} {f g : Nat → α}
theorem mk_len : (mk n f).length = n := by unfold mk; simp
theorem mk_at {i : Nat} (h : i < n) : (mk n f)[i]? = some (f i) := by unfold mk; rw [List.getElem?_map, List.getElem?_range h]; rfl
theorem mk_get {i : Nat} {x : α} (h : (mk n f)[i]? = some x) : i < n ∧ x = f i := by
  have hi : i < n := by
    have := (List.getElem?_eq_some_iff.mp h).1
    rw [mk_len] at this; exact this
  rw [mk_at hi] at h
  exact ⟨hi, (Option.some.inj h).symm⟩
theorem mk_congr (h : ∀ i, i < n → f i = g i) : mk n f = mk n g := by
  unfold mk
  exact List.map_congr_left fun i hi => h i (List.mem_range.mp hi)
theorem mk_map (k : α → β) : (mk n f).map k = mk n (fun i => k (f i)) := by unfold mk; rw [List.map_map]; rfl
theorem mk_succ : mk (n + 1) f = mk n f ++ [f n] := by unfold mk; rw [List.range_succ, List.map_append]; rfl
theorem mk_zero : mk 0 f = [] := rfl
theorem mk_mem {x : α} : x ∈ mk n f ↔ ∃ i, i < n ∧ f i = x := by
  unfold mk
  rw [List.mem_map]
  exact ⟨fun ⟨i, h, e⟩ => ⟨i, List.mem_range.mp h, e⟩, fun ⟨i, h, e⟩ => ⟨i, List.mem_range.mpr h, e⟩⟩
theorem mk_of (l : List α) (d : α) : l = mk l.length fun i => l.getD i d := by
  apply List.ext_getElem?
  intro i
  by_cases h : i < l.length
  · rw [mk_at h, List.getElem?_eq_getElem h, List.getD_eq_getElem?_getD, List.getElem?_eq_getElem h]; rfl
  · rw [List.getElem?_eq_none (by omega), List.getElem?_eq_none (by rw [mk_len]; omega)]
theorem mk_get_iff {l : List α} : l = mk n f ↔ l.length = n ∧ ∀ i x, l[i]? = some x → x = f i := by
  constructor
  · intro e
    subst e
    exact ⟨mk_len, fun i x h => (mk_get h).2⟩
  · rintro ⟨h1, h2⟩
    apply List.ext_getElem?
    intro i
    by_cases h : i < l.length
    · rw [mk_at (h1 ▸ h), List.getElem?_eq_getElem h, h2 i _ (List.getElem?_eq_getElem h)]
    · rw [List.getElem?_eq_none (by omega), List.getElem?_eq_none (by rw [mk_len]; omega)]
theorem mk_inj (h : mk n f = mk n g) : ∀ i, i < n → f i = g i := fun i hi => by
  have := congrArg (·[i]?) h
  simp only [mk_at hi] at this
  exact Option.some.inj this
theorem mk_set {i : Nat} {x : α} : (mk n f).set i x = mk n (fun j => if j = i then x else f j) := by
  apply List.ext_getElem?
  intro j
  rw [List.getElem?_set]
  by_cases hj : j < n
  · rw [mk_at hj, mk_at hj, mk_len]
    by_cases e : i = j
    · subst e; rw [if_pos rfl, if_pos hj, if_pos rfl]
    · rw [if_neg e, if_neg (Ne.symm e)]
  · have h1 : (mk n f)[j]? = none := List.getElem?_eq_none (by rw [mk_len]; omega)
    have h2 : (mk n (fun j => if j = i then x else f j))[j]? = none := List.getElem?_eq_none (by rw [mk_len]; omega)
    rw [h1, h2, mk_len]
    split
    · rw [if_neg (by omega)]
    · rfl
end
theorem rng_mk (n : Nat) : rng 0 n = mk n fun i => PV.int (i : Int) := by
  unfold rng mk
  refine List.map_congr_left fun i _ => ?_
  show PV.int (0 + (i : Int)) = PV.int (i : Int)
  rw [Int.zero_add]
section
variable {X : Cx} {H0 : Hp} {pos : Pos} {K : Kf}
/-- a comprehension whose turns leave the heap (but for what they add): f i by the turn -/
@[reducible] def LcP (mt : Mt) (te : TEp) (vs : List Nat) (σ : PSt) (Q : PVK) (items : List PV) (keep : PHp → Prop) (M1 : PHp) : Prop := ∃ f : Nat → PV, items.length ≤ 16777216 ∧ (∀ M2, Sub M1 M2 → keep M2) ∧
  (∀ i x M2 (Q2 : PVK), items[i]? = some x → Sub M1 M2 → (∀ M4, Sub M2 M4 → Q2 (f i) M4) → ∃ as, mt x = some as ∧ te (setsP (wipeP σ vs) as) M2 Q2) ∧ ∀ Dl l, M1 Dl = none → l = mk items.length f → Q (.ref Dl) (updM M1 Dl (.lst l))
theorem LcP.to {mt : Mt} {te : TEp} {vs : List Nat} {σ : PSt} {Q : PVK} {items : List PV} {keep : PHp → Prop} {M1 : PHp} (h : LcP mt te vs σ Q items keep M1) : LcIn mt tYes te vs σ Q items keep M1 := by
  obtain ⟨f, few, hk, ht, hd⟩ := h
  intro Dl hD
  refine ⟨fun i acc M => M = updM M1 Dl (.lst acc) ∧ acc = mk i f, ⟨_, .refl _, rfl, rfl⟩, ?_, ?_, ?_⟩
  · rintro i acc M ⟨rfl, _⟩
    exact hk _ (.new hD)
  · rintro i x acc M hx ⟨rfl, rfl⟩
    have hi := (List.getElem?_eq_some_iff.mp hx).1
    have go := ht i x (updM M1 Dl (.lst (mk i f))) (fun y M4 => M4 Dl = some (.lst (mk i f)) ∧ (mk i f).length < sizeLine ∧ ∃ M5, Sub M5 (updM M4 Dl (.lst (mk i f ++ [y]))) ∧ M5 = updM M1 Dl (.lst (mk i f ++ [y])) ∧ mk i f ++ [y] = mk (i + 1) f) hx (.new hD) fun M4 sb => by
      refine ⟨sb _ _ updM_same, by rw [mk_len, sizeLine_eq]; omega, updM M1 Dl (.lst (mk i f ++ [f i])), ?_, rfl, mk_succ.symm⟩
      have := (sb.upd (p := Dl) (o := .lst (mk i f ++ [f i])))
      rw [updM_updM] at this
      exact this
    obtain ⟨as, e, q⟩ := go
    exact ⟨as, e, br_tt q⟩
  · rintro acc M ⟨rfl, rfl⟩
    exact hd _ _ hD rfl
/-- the same with a test that leaves the heap: b i by the turn -/
@[reducible] def LcF (mt : Mt) (tt : TTp) (te : TEp) (vs : List Nat) (σ : PSt) (Q : PVK) (items : List PV) (keep : PHp → Prop) (M1 : PHp) : Prop := ∃ (b : Nat → Bool) (f : Nat → PV), items.length ≤ 16777216 ∧ (∀ M2, Sub M1 M2 → keep M2) ∧
  (∀ i x M2 (Q3 : Bool → PHp → Prop), items[i]? = some x → Sub M1 M2 → (∀ M4, Sub M2 M4 → Q3 (b i) M4) → ∃ as, mt x = some as ∧ tt (setsP (wipeP σ vs) as) M2 Q3) ∧
  (∀ i x M2 (Q2 : PVK), items[i]? = some x → b i = true → Sub M1 M2 → (∀ M4, Sub M2 M4 → Q2 (f i) M4) → ∃ as, mt x = some as ∧ te (setsP (wipeP σ vs) as) M2 Q2) ∧ ∀ Dl l, M1 Dl = none → l = ((List.range items.length).filter b).map f → Q (.ref Dl) (updM M1 Dl (.lst l))
theorem flt_len {b : Nat → Bool} {f : Nat → PV} (i : Nat) : (((List.range i).filter b).map f).length ≤ i := by
  rw [List.length_map]
  have := List.length_filter_le b (List.range i)
  rw [List.length_range] at this; exact this
theorem flt_succ {b : Nat → Bool} {f : Nat → PV} (i : Nat) : ((List.range (i + 1)).filter b).map f = ((List.range i).filter b).map f ++ (if b i = true then [f i] else []) := by
  rw [List.range_succ, List.filter_append, List.map_append]
  congr 1
  by_cases h : b i = true
  · rw [if_pos h, List.filter_cons_of_pos h]; rfl
  · rw [if_neg h, List.filter_cons_of_neg h]; rfl
theorem LcF.to {mt : Mt} {tt : TTp} {te : TEp} {vs : List Nat} {σ : PSt} {Q : PVK} {items : List PV} {keep : PHp → Prop} {M1 : PHp} (h : LcF mt tt te vs σ Q items keep M1) : LcIn mt tt te vs σ Q items keep M1 := by
  obtain ⟨b, f, few, hk, hb, ht, hd⟩ := h
  intro Dl hD
  refine ⟨fun i acc M => M = updM M1 Dl (.lst acc) ∧ acc = ((List.range i).filter b).map f, ⟨_, .refl _, rfl, rfl⟩, ?_, ?_, ?_⟩
  · rintro i acc M ⟨rfl, _⟩
    exact hk _ (.new hD)
  · rintro i x acc M hx ⟨rfl, ha⟩
    have hi := (List.getElem?_eq_some_iff.mp hx).1
    have hz := flt_len (b := b) (f := f) i
    have hs := flt_succ (b := b) (f := f) i
    rw [← ha] at hz hs
    have hP : ∀ M4, Sub (updM M1 Dl (.lst acc)) M4 → br (b i) (∃ as, mt x = some as ∧ te (setsP (wipeP σ vs) as) M4 fun y M4 => M4 Dl = some (.lst acc) ∧ acc.length < sizeLine ∧ ∃ M5, Sub M5 (updM M4 Dl (.lst (acc ++ [y]))) ∧ M5 = updM M1 Dl (.lst (acc ++ [y])) ∧ acc ++ [y] = ((List.range (i + 1)).filter b).map f)
        (∃ M5, Sub M5 M4 ∧ M5 = updM M1 Dl (.lst acc) ∧ acc = ((List.range (i + 1)).filter b).map f) := fun M4 sb => by
      cases hbi : b i with
      | true =>
        refine br_tt (ht i x M4 _ hx hbi (Sub.trans (.new hD) sb) fun M6 sb2 => ?_)
        refine ⟨sb2 _ _ (sb _ _ updM_same), by rw [sizeLine_eq]; omega, updM M1 Dl (.lst (acc ++ [f i])), ?_, rfl, by rw [hs, if_pos hbi]⟩
        have := ((sb.trans sb2).upd (p := Dl) (o := .lst (acc ++ [f i])))
        rw [updM_updM] at this
        exact this
      | false => exact br_ff ⟨_, sb, rfl, by rw [hs, if_neg (by rw [hbi]; exact Bool.false_ne_true), List.append_nil]⟩
    obtain ⟨as, e, q⟩ := hb i x _ (fun c M4 => br c (te (setsP (wipeP σ vs) ((mt x).getD [])) M4 fun y M4 => M4 Dl = some (.lst acc) ∧ acc.length < sizeLine ∧ ∃ M5, Sub M5 (updM M4 Dl (.lst (acc ++ [y]))) ∧ M5 = updM M1 Dl (.lst (acc ++ [y])) ∧ acc ++ [y] = ((List.range (i + 1)).filter b).map f)
        (∃ M5, Sub M5 M4 ∧ M5 = updM M1 Dl (.lst acc) ∧ acc = ((List.range (i + 1)).filter b).map f)) hx (.new hD) fun M4 sb => by
      have z := hP M4 sb
      cases hbi : b i with
      | true =>
        rw [hbi] at z
        obtain ⟨as, e, q⟩ := br_ite z
        rw [e]; exact br_tt q
      | false =>
        rw [hbi] at z
        exact br_ff (br_ite z)
    rw [e] at q
    exact ⟨as, e, q⟩
  · rintro acc M ⟨rfl, rfl⟩
    exact hd _ _ hD rfl
section
variable {elt iter tg : Expr} {ifs : List Expr} {scope : Scope} {own : List (Str × Nat)} {wi : TIp} {tt : TTp} {te : TEp} {g : TG} {mt : Mt}
@[reducible] def tLcP (wi : TIp) (mt : Mt) (te : TEp) (vs : List Nat) : TEp := fun σ M Q => wi σ M (LcP mt te vs σ Q)
@[reducible] def tLcF (wi : TIp) (mt : Mt) (tt : TTp) (te : TEp) (vs : List Nat) : TEp := fun σ M Q => wi σ M (LcF mt tt te vs σ Q)
theorem plcP (hc : X.calm = true) (hN : X.N.Nodup) (hi : PIp' X H0 tg iter wi) (ok : BlkOk X.N X.env.scope scope own) (hm : TgOk X.K g mt (own.map (·.2)))
    (hg : ∀ (s : Shared) (H : Hp) (C : Addr) (cl : List (Str × Addr)) (fp : List Addr), PG (X.blk s H scope (compEnvC scope cl C X.env) fp) tg g)
    (he : ∀ (s : Shared) (H : Hp) (C : Addr) (cl : List (Str × Addr)) (fp : List Addr), PEp (X.blk s H scope (compEnvC scope cl C X.env) fp) H0 elt te) (hs : ∀ x, foldedSetIterable iter X.env x = pure x := by intro _; rfl) :
    PEp X H0 (.ListComp elt [⟨tg, iter, [], 0⟩] scope pos) (tLcP wi mt te (own.map (·.2))) :=
  peW (pe_lc (tt := concT X.K H0 tYes) (te := concE X.K H0 te) hc hN hi ok hg (fun _ _ _ _ _ => ptsnil) he hs) fun σ H Q h => lcR_conc hm (fun _ _ _ _ _ q => LcP.to q) h
theorem pssetlcP (i : Nat) {y : Str} {py spos : Pos} (hc : X.calm = true) (hN : X.N.Nodup) (hyl : X.env.scope.names.lookup y = some .local)
    (hsw : swapsWith (.ListComp elt [⟨tg, iter, [], 0⟩] scope pos) (some (.Name y py)) spos.line X.env = pure true) (hi : PIp' X H0 tg iter wi) (ok : BlkOk X.N X.env.scope scope own) (hm : TgOk X.K g mt (own.map (·.2)))
    (hg : ∀ (s : Shared) (H : Hp) (C : Addr) (cl : List (Str × Addr)) (fp : List Addr), PG (X.blk s H scope (compEnvC scope cl C X.env) fp) tg g)
    (he : ∀ (s : Shared) (H : Hp) (C : Addr) (cl : List (Str × Addr)) (fp : List Addr), PEp (X.blk s H scope (compEnvC scope cl C X.env) fp) H0 elt te) (hy : X.N[i]? = some y := by rfl) (hs : ∀ x, foldedSetIterable iter X.env x = pure x := by intro _; rfl) :
    PSp' X H0 (.Assign [.Name y py] (.ListComp elt [⟨tg, iter, [], 0⟩] scope pos) spos) (tAsg (tLcP wi mt te (own.map (·.2))) (gName i)) :=
  psW (ps_setLc (tt := concT X.K H0 tYes) (te := concE X.K H0 te) hc hN hy hyl hsw hi ok hg (fun _ _ _ _ _ => ptsnil) he hs) fun D σ H ⟨σp, M, Dp, t, s, m, u, k⟩ =>
    lcR_conc hm (R := LcP mt te (own.map (·.2))) (fun _ _ _ _ _ q => LcP.to q) ⟨σp, M, _, t, s, m, u, fun v H1 p M1 t1 m1 r u1 => k.nx _ _ _ _ t1 ((s.mono t1).set r i) m1 u1⟩
theorem plcF (hc : X.calm = true) (hN : X.N.Nodup) (hi : PIp' X H0 tg iter wi) (ok : BlkOk X.N X.env.scope scope own) (hm : TgOk X.K g mt (own.map (·.2)))
    (hg : ∀ (s : Shared) (H : Hp) (C : Addr) (cl : List (Str × Addr)) (fp : List Addr), PG (X.blk s H scope (compEnvC scope cl C X.env) fp) tg g)
    (ht : ∀ (s : Shared) (H : Hp) (C : Addr) (cl : List (Str × Addr)) (fp : List Addr), PTsp (X.blk s H scope (compEnvC scope cl C X.env) fp) H0 ifs tt)
    (he : ∀ (s : Shared) (H : Hp) (C : Addr) (cl : List (Str × Addr)) (fp : List Addr), PEp (X.blk s H scope (compEnvC scope cl C X.env) fp) H0 elt te) (hs : ∀ x, foldedSetIterable iter X.env x = pure x := by intro _; rfl) :
    PEp X H0 (.ListComp elt [⟨tg, iter, ifs, 0⟩] scope pos) (tLcF wi mt tt te (own.map (·.2))) :=
  peW (pe_lc (tt := concT X.K H0 tt) (te := concE X.K H0 te) hc hN hi ok hg ht he hs) fun σ H Q h => lcR_conc hm (fun _ _ _ _ _ q => LcF.to q) h
theorem pssetlcF (i : Nat) {y : Str} {py spos : Pos} (hc : X.calm = true) (hN : X.N.Nodup) (hyl : X.env.scope.names.lookup y = some .local)
    (hsw : swapsWith (.ListComp elt [⟨tg, iter, ifs, 0⟩] scope pos) (some (.Name y py)) spos.line X.env = pure true) (hi : PIp' X H0 tg iter wi) (ok : BlkOk X.N X.env.scope scope own) (hm : TgOk X.K g mt (own.map (·.2)))
    (hg : ∀ (s : Shared) (H : Hp) (C : Addr) (cl : List (Str × Addr)) (fp : List Addr), PG (X.blk s H scope (compEnvC scope cl C X.env) fp) tg g)
    (ht : ∀ (s : Shared) (H : Hp) (C : Addr) (cl : List (Str × Addr)) (fp : List Addr), PTsp (X.blk s H scope (compEnvC scope cl C X.env) fp) H0 ifs tt)
    (he : ∀ (s : Shared) (H : Hp) (C : Addr) (cl : List (Str × Addr)) (fp : List Addr), PEp (X.blk s H scope (compEnvC scope cl C X.env) fp) H0 elt te) (hy : X.N[i]? = some y := by rfl) (hs : ∀ x, foldedSetIterable iter X.env x = pure x := by intro _; rfl) :
    PSp' X H0 (.Assign [.Name y py] (.ListComp elt [⟨tg, iter, ifs, 0⟩] scope pos) spos) (tAsg (tLcF wi mt tt te (own.map (·.2))) (gName i)) :=
  psW (ps_setLc (tt := concT X.K H0 tt) (te := concE X.K H0 te) hc hN hy hyl hsw hi ok hg ht he hs) fun D σ H ⟨σp, M, Dp, t, s, m, u, k⟩ =>
    lcR_conc hm (R := LcF mt tt te (own.map (·.2))) (fun _ _ _ _ _ q => LcF.to q) ⟨σp, M, _, t, s, m, u, fun v H1 p M1 t1 m1 r u1 => k.nx _ _ _ _ t1 ((s.mono t1).set r i) m1 u1⟩
end
theorem g_mt {mt : Mt} {x : PV} {as : List (Nat × PV)} {R : List (Nat × PV) → Prop} (h : mt x = some as) (q : R as) : ∃ as, mt x = some as ∧ R as := ⟨as, h, q⟩
/-! ### comprehensions in comprehensions -/
theorem blkOk_n1 {s1 scope sc0 : Scope} {cl : List (Str × Addr)} {C : Addr} {env : PySem.Env} {N : List Str} {own : List (Str × Nat)} (he : env.scope = sc0) (h : blkC N (relS s1 sc0) scope own = true) : BlkOk N (compEnvC s1 cl C env).scope scope own := by
  subst he; exact blkOk_by h
theorem blkOk_n2 {s1 s2 scope sc0 : Scope} {cl cl2 : List (Str × Addr)} {C C2 : Addr} {env : PySem.Env} {N : List Str} {own : List (Str × Nat)} (he : env.scope = sc0) (h : blkC N (relS s2 (relS s1 sc0)) scope own = true) : BlkOk N (compEnvC s2 cl2 C2 (compEnvC s1 cl C env)).scope scope own := by
  subst he; exact blkOk_by h
theorem blkOk_n3 {s1 s2 s3 scope sc0 : Scope} {cl cl2 cl3 : List (Str × Addr)} {C C2 C3 : Addr} {env : PySem.Env} {N : List Str} {own : List (Str × Nat)} (he : env.scope = sc0) (h : blkC N (relS s3 (relS s2 (relS s1 sc0))) scope own = true) : BlkOk N (compEnvC s3 cl3 C3 (compEnvC s2 cl2 C2 (compEnvC s1 cl C env))).scope scope own := by
  subst he; exact blkOk_by h
/-! ### a tuple's methods -/
section
variable {o e : Expr} {es : List Expr} {to : TEp} {ta : TAp} {name : Str} {apos cpos : Pos} {id : String} {u : RMp}
@[reducible] def tTM (u : RMp) (to : TEp) (ta : TAp) : TEp := fun σ M Q => to σ M fun x M1 => match x with | .tup l => ta σ M1 fun ps M2 => u (.tup l) ps M2 Q | _ => False
theorem ptm (slot : Slot "tuple" name id) (hty : typeOf (.builtin id) = pure (.type "method_descriptor")) (hm : MtP X id u) (ho : PEp X H0 o to) (ha : PAp X H0 (e :: es) ta)
    (h1 : attributeBase o name X.env (eval o X.env) = eval o X.env := by rfl)
    (h2 : (((backTo cpos (starEach (e :: es) X.env)).all (fun x => !x.1) && (backToKw cpos (keywordEach [] X.env)).all (fun x => x.1.isSome)) && decide ((e :: es).length + ([] : List Keyword).length + (if ([] : List Keyword).isEmpty then 0 else 1) < 30)) = true := by rfl)
    (h3 : (apos.endLine == cpos.line) = true := by rfl) (h4 : starEach (e :: es) X.env = (false, eval e X.env) :: starEach es X.env := by rfl) (h5 : (backTo cpos (starEach es X.env)).any (·.1) = false := by rfl) :
    PEp X H0 (.Call (.Attribute o name apos) (e :: es) [] cpos) (tTM u to ta) := by
  obtain ⟨r, hr, hu⟩ := hm
  refine peW (pe_bmX slot hty hr ho ha h1 h2 h3 h4 h5) fun σ H Q ⟨σp, M, Qp, t, s, m, q, k⟩ => ⟨σp, M, _, t, s, m, q, fun x H1 px M1 t1 m1 rx u1 => ?_⟩
  cases rx with
  | tup h r0 =>
    refine ⟨⟨_, _, rfl, h⟩, σp, M1, _, t.trans t1, s.mono t1, m1, u1, fun vs H2 ps M2 t2 m2 rs u2 => ?_⟩
    exact hu _ _ _ _ _ _ _ _ (.tup (t2 _ _ h) (r0.mono t2)) rs m2 u2 fun v H3 p M3 t3 => k v H3 p M3 (t1.trans (t2.trans t3))
  | _ => exact u1.elim
/-- t.index(x) -/
def tIdxP : RMp := fun x ps M Q => match x, ps with
  | .tup l, [.int k] => ∃ ns : List Int, l = ns.map PV.int ∧ k ∈ ns ∧ Q (.int (ns.idxOf k : Nat)) M
  | .tup l, [.str k] => ∃ ns : List Str, l = ns.map PV.str ∧ k ∈ ns ∧ Q (.int (ns.idxOf k : Nat)) M
  | _, _ => False
theorem mIdxT : MtP X "tuple.index" tIdxP := by
  refine ⟨_, mt_idxT, fun x xs H px ps M Q Qp rx rs m u k => ?_⟩
  cases rx with
  | tup h r =>
    cases rs with
    | nil => exact u.elim
    | cons r1 rr => cases rr with
      | cons _ _ => cases r1 <;> exact u.elim
      | nil => cases r1 with
        | int i =>
          obtain ⟨ns, rfl, hk, q⟩ := u
          have e := r.ints
          subst e
          exact ⟨_, rfl, .inl ⟨ns, i, rfl, h.t, hk, k _ _ _ _ (Tk.refl _ _) m (.int _) q⟩⟩
        | str i =>
          obtain ⟨ns, rfl, hk, q⟩ := u
          have e := r.strs
          subst e
          exact ⟨_, rfl, .inr ⟨ns, i, rfl, h.t, hk, k _ _ _ _ (Tk.refl _ _) m (.int _) q⟩⟩
        | _ => exact u.elim
  | _ => exact u.elim
end
end
end PL

set_option Elab.async false
set_option linter.all false
set_option maxRecDepth 100000
set_option maxHeartbeats 2000000
/-! PL12: pure data; slices; sorted of pure data; tuple * int; whole numbers of the module. -/
namespace PLraw
open PySem PySem.Spec PySem.Calls PyProof.Rows
section
variable {prog : Program} {w : World} {A : Around} {E : Value → Shared → Prop} {s : Shared}
/-- sorted(x) of a tuple, by a sort that may look at what stood -/
theorem sorted_tupK {l : Addr} {vs : List Value} {Q : Value → Shared → Prop} {R : Array Value → Prop} (tup : s.heap.IsTuple l vs.toArray) (few : vs.length ≤ sizeLine)
    (sorts : ∀ (t : Shared) (a : Addr) (P : Fin → Shared → Prop), t.heap.get? a = some (seqObj "list" vs.toArray 0) → (∀ b o, s.heap.get? b = some o → b ≠ a ∧ t.heap.get? b = some o) → (∀ out, R out → P (.done (.ret .none)) { t with heap := sortedHeap t.heap a vs out }) → ∀ E, wpAny (model prog w) A.in1.in1 (Builtin.«list.sort» ⟨[.ref a], []⟩) P E t)
    (h : ∀ out, R out → Q (.ref (s.heap.objs.size + 1)) { s with heap := sortedAll s.heap vs out }) : wpAny (model prog w) A (call (.builtin "sorted") [.ref l]) Q E s := by
  have count : ((s.heap.push (seqObj "list" #[] 0)).update s.heap.objs.size (Obj.mapSeq (· ++ vs.toArray))).objs.size = s.heap.objs.size + 1 := (Heap.size_update _ _ _).trans (size_push' _ _)
  have laid : (((s.heap.push (seqObj "list" #[] 0)).update s.heap.objs.size (Obj.mapSeq (· ++ vs.toArray))).push (seqObj "list" vs.toArray 0)).get? (s.heap.objs.size + 1) = some (seqObj "list" vs.toArray 0) := count ▸ Heap.get?_push_size _ rfl
  have stay : ∀ b o, s.heap.get? b = some o → b ≠ s.heap.objs.size + 1 ∧ (((s.heap.push (seqObj "list" #[] 0)).update s.heap.objs.size (Obj.mapSeq (· ++ vs.toArray))).push (seqObj "list" vs.toArray 0)).get? b = some o := fun b o e => by
    have under := Heap.lt_size e
    refine ⟨Nat.ne_of_lt (Nat.lt_succ_of_lt under), Heap.get?_push_of_some _ ?_⟩
    rw [Heap.get?_update_ne _ _ _ _ (Nat.ne_of_lt under)]; exact Heap.get?_push_of_some _ e
  refine (Calls.call_function_entry kind_sorted plain_sorted entry_sorted (args_sorted1 _) ?_)
  unfold Builtin.«sorted»
  refine wpAny_bind (m := checkCount "sorted" 1 1 _) (wpAny_pure (wpAny_bind (gather_tup tup few (wpAny_bind (wpAny_newList ?_)))))
  change wpAny _ _ _ _ _ { s with heap := ((s.heap.push (seqObj "list" #[] 0)).update s.heap.objs.size (Obj.mapSeq (· ++ vs.toArray))).push (seqObj "list" vs.toArray 0) }
  rw [count]
  exact wpAny_bind (wpAny_holding (wpAny_call_entry slot_list_sort ⟨_, laid, rfl⟩ entry_list_sort (sorts { s with heap := _ } _ _ laid stay (fun out ro => ⟨_, rfl, wpAny_pure ⟨_, rfl, h out ro⟩⟩) _) (args_list_sort _)))
end
end PLraw
namespace PL
open PySem L2
section
variable {X : Cx} {H0 : Hp} {pos : Pos} {K : Kf}
/-- data without lists -/
inductive PureD : Nat → PV → Prop
  | non {n} : PureD (n + 1) .non
  | bl {n} (b) : PureD (n + 1) (.bl b)
  | int {n} (i) : PureD (n + 1) (.int i)
  | str {n} (x) : PureD (n + 1) (.str x)
  | tup {n l} : l.length ≤ 16777216 → (∀ x ∈ l, PureD n x) → PureD (n + 1) (.tup l)
mutual
def toD : PV → PyData
  | .non => .none
  | .bl b => .bool b
  | .int i => .int i
  | .str x => .str x
  | .tup l => .tuple (toDs l)
  | .ref _ => .none
  | .ty _ => .none
def toDs : List PV → List PyData
  | [] => []
  | x :: r => toD x :: toDs r
end
theorem toDs_map : ∀ l : List PV, toDs l = l.map toD
  | [] => rfl
  | x :: r => by rw [toDs, toDs_map r]; rfl
theorem PureD.dp {M : PHp} : ∀ {n : Nat} {x : PV}, PureD n x → DpP K M x (toD x)
  | _, _, .non => .non
  | _, _, .bl _ => .bl _
  | _, _, .int _ => .int _
  | _, _, .str _ => .str _
  | n + 1, .tup l, .tup _ h => by
    have key : ∀ l : List PV, (∀ x ∈ l, PureD n x) → DpsP K M l (toDs l) := by
      intro l
      induction l with
      | nil => intro _; exact .nil
      | cons x r ih => intro h; exact .cons (PureD.dp (h x List.mem_cons_self)) (ih fun y hy => h y (List.mem_cons_of_mem _ hy))
    exact .tup (key l h)
theorem PureD.depth : ∀ {n : Nat} {x : PV}, PureD n x → (toD x).depth ≤ n
  | _, _, .non => Nat.zero_le _
  | _, _, .bl _ => Nat.zero_le _
  | _, _, .int _ => Nat.zero_le _
  | _, _, .str _ => Nat.zero_le _
  | n + 1, .tup l, .tup _ h => by
    have key : ∀ l : List PV, (∀ x ∈ l, PureD n x) → PyData.depthAll (toDs l) ≤ n := by
      intro l
      induction l with
      | nil => intro _; exact Nat.zero_le _
      | cons x r ih =>
        intro h
        show max (toD x).depth (PyData.depthAll (toDs r)) ≤ n
        exact Nat.max_le.mpr ⟨PureD.depth (h x List.mem_cons_self), ih fun y hy => h y (List.mem_cons_of_mem _ hy)⟩
    show PyData.depthAll (toDs l) + 1 ≤ n + 1
    exact Nat.succ_le_succ (key l h)
/-! ### slices -/
abbrev TOp := PSt → PHp → (Option Int → PHp → Prop) → Prop
def concO (K : Kf) (H0 : Hp) (u : TOp) : TO := fun σ H Q => ∃ σp M Qp, Tk K H0 H ∧ RelS K H σp σ ∧ RelM K H M ∧ u σp M Qp ∧ ∀ b H' M', Tk K H H' → RelM K H' M' → Qp b M' → Q b H'
abbrev POp (X : Cx) (H0 : Hp) (e : Option Expr) (u : TOp) : Prop := PO X e (concO X.K H0 u)
@[reducible] def tNoP : TOp := fun _ M Q => Q none M
@[reducible] def tSomeP (t : TEp) : TOp := fun σ M Q => t σ M fun x M1 => match x with | .int i => Q (some i) M1 | _ => False
theorem poW {e : Option Expr} {t t' : TO} (h : PO X e t) (w : ∀ σ H Q, t' σ H Q → t σ H Q) : PO X e t' := ⟨fun pins s σ H Q I q => h.run pins s σ H Q I (w _ _ _ q)⟩
theorem ponone : POp X H0 none tNoP := poW po_none fun σ H Q ⟨_, M, _, _, _, m, u, k⟩ => k none H M (Tk.refl _ _) m u
theorem posome {e : Expr} {t : TEp} (h : PEp X H0 e t) : POp X H0 (some e) (tSomeP t) :=
  poW (po_some h) fun σ H Q ⟨σp, M, Qp, t, s, m, u, k⟩ => ⟨σp, M, _, t, s, m, u, fun x H1 px M1 t1 m1 rx u1 => by
    cases rx with
    | int i => exact ⟨i, rfl, k _ _ _ t1 m1 u1⟩
    | _ => exact u1.elim⟩
def cutL {α : Type} (xs : List α) (lo hi : Option Int) : List α := (xs.drop (HT.sIx xs.length 0 lo)).take (HT.sIx xs.length xs.length hi - HT.sIx xs.length 0 lo)
theorem cutL_map {α β : Type} (f : α → β) (xs : List α) (lo hi : Option Int) : cutL (xs.map f) lo hi = (cutL xs lo hi).map f := by
  unfold cutL; rw [List.length_map, List.map_take, List.map_drop]
theorem cutL_all {α : Type} {xs : List α} {lo hi : Option Int} (h : HT.sIx xs.length 0 lo = 0 ∧ HT.sIx xs.length xs.length hi = xs.length) : cutL xs lo hi = xs := by
  unfold cutL; rw [h.1, h.2]; simp
theorem cutL_len {α : Type} (xs : List α) (lo hi : Option Int) : (cutL xs lo hi).length ≤ xs.length := by
  unfold cutL; rw [List.length_take, List.length_drop]; omega
theorem cutL_mem {α : Type} {xs : List α} {lo hi : Option Int} {x : α} (h : x ∈ cutL xs lo hi) : x ∈ xs := List.mem_of_mem_drop (List.mem_of_mem_take h)
theorem Reps.cut {H : Hp} {ps : List PV} {vs : List V} (r : Reps K H ps vs) (lo hi : Option Int) : Reps K H (cutL ps lo hi) (cutV vs lo hi) := by
  unfold cutL cutV
  rw [r.length]
  exact (r.drop _).take _
def sliceP (K : Kf) (x : PV) (lo hi : Option Int) (M : PHp) (Q : PVK) : Prop := match x with
  | .tup l => Q (.tup (cutL l lo hi)) M
  | .ref a => ∃ l, rdL K M a l ∧ ∀ p, M p = none → Q (.ref p) (updM M p (.lst (cutL l lo hi)))
  | .str z => z.length ≤ sizeLine ∧ Q (.str (cutS z lo hi)) M
  | _ => False
@[reducible] def tSlP (K : Kf) (te : TEp) (tl th : TOp) : TEp := fun σ M Q => te σ M fun x M1 => tl σ M1 fun l M2 => th σ M2 fun h M3 => sliceP K x l h M3 Q
theorem pslice {e : Expr} {lo hi : Option Expr} {te : TEp} {tl th : TOp} {p2 : Pos} (he : PEp X H0 e te) (hl : POp X H0 lo tl) (hh : POp X H0 hi th) (hK : X.K = K := by rfl) : PEp X H0 (.Subscript e (.Slice lo hi none p2) pos) (tSlP K te tl th) := by
  subst hK
  refine peW (pe_slice ((sl_tupX.or sl_list).or sl_str) he hl hh) fun σ H Q ⟨σp, M, Qp, t, s, m, u, k⟩ => ⟨σp, M, _, t, s, m, u, fun x H1 px M1 t1 m1 rx u1 => ⟨σp, M1, _, t.trans t1, s.mono t1, m1, u1, fun l H2 M2 t2 m2 u2 => ⟨σp, M2, _, (t.trans t1).trans t2, (s.mono t1).mono t2, m2, u2, fun h H3 M3 t3 m3 u3 => ?_⟩⟩⟩
  have kk : Kont X.K H3 Q Qp := fun v H4 p M4 t4 => k v H4 p M4 (((t1.trans t2).trans t3).trans t4)
  have rx := (rx.mono t2).mono t3
  cases rx with
  | tup hs r =>
    refine .inl (.inl ⟨_, _, rfl, hs, fun w => ?_, fun _ => new_tup m3 (r.cut _ _) u3 kk⟩)
    have w2 := w
    rw [← r.length] at w2
    have u4 : Qp (.tup _) M3 := u3
    rw [cutL_all w2] at u4
    exact old_tup m3 hs r u4 kk
  | ref a =>
    obtain ⟨l0, hl0, q⟩ := u3
    obtain ⟨vs, e, r⟩ := hl0.to m3
    exact .inl (.inr ⟨_, _, rfl, e, fun p hp => new_lst m3 hp (r.cut _ _) q kk⟩)
  | str z => exact .inr ⟨z, rfl, u3.1, kk _ _ _ _ (Tk.refl _ _) m3 (.str _) u3.2⟩
  | _ => exact u3.elim
/-! ### whole numbers of the module -/
theorem pglobI {x : Str} {i : Int} (hg : Gl X x) (hm : ∃ t, X.mg x = some (.int i t)) (hd : (x == ("__debug__" : Str)) = false := by decide) : PEp X H0 (.Name x pos) (tc (.int i)) := by
  obtain ⟨t, hm⟩ := hm
  exact pglob hg hm (v := .int i) ⟨t, rfl⟩ (fun _ => .int i) hd
/-! ### sorted of pure data -/
open PySem.W (AllAlike Sortable EachIs dataLe) in
def rSortC (K : Kf) : List V → Hp → VK → Prop := fun vs H Q => ∃ (a : Addr) (c : List (PV × V)), vs = [V.ref a] ∧ (SqL K H a (c.map (·.2)) ∨ SqT K H a (c.map (·.2))) ∧ (∀ b ∈ c, Dp K H b.2 (toD b.1) ∧ (toD b.1).depth ≤ 40) ∧
  AllAlike (c.map fun b => toD b.1) ∧ Sortable (c.map fun b => toD b.1) ∧ ∀ p, H p = none → Q (.ref p) (upd H p (.lst ((c.mergeSort (dataLe false fun b => toD b.1)).map (·.2))))
theorem each_rel : ∀ {c : List (PV × V)} {its : List Value}, Vals (c.map (·.2)) its → PySem.W.EachIs (fun v b => RelV b.2 v) its c
  | [], _, .nil => .nil
  | _ :: _, _, .cons r t => .cons r (each_rel t)
theorem rel_each : ∀ {c : List (PV × V)} {its : List Value}, PySem.W.EachIs (fun v b => RelV b.2 v) its c → Vals (c.map (·.2)) its
  | _, _, .nil => .nil
  | _, _, .cons r t => .cons r (rel_each t)
theorem each_reads {pins : List (Addr × Obj)} {σ : L2.St} {H : Hp} {s : Shared} (I : Inv X pins σ H s) : ∀ {c : List (PV × V)} {its : List Value}, (∀ b ∈ c, Dp X.K H b.2 (toD b.1) ∧ (toD b.1).depth ≤ 40) → Vals (c.map (·.2)) its → PySem.W.EachIs (fun v b => ∃ as, Reads s.heap v (toD b.1) as) its c
  | [], _, _, .nil => .nil
  | b :: _, _, h, .cons r t => .cons (Dp.reads I _ _ _ (h b List.mem_cons_self).1 r) (each_reads I (fun y hy => h y (List.mem_cons_of_mem _ hy)) t)
theorem each_len {α β : Type} {R : α → β → Prop} : ∀ {as : List α} {bs : List β}, PySem.W.EachIs R as bs → as.length = bs.length
  | _, _, .nil => rfl
  | _, _, .cons _ t => congrArg (· + 1) (each_len t)
theorem cr_sortC (hu : X.A.units + 64 < cLine) : CallR X (.builtin "sorted") (rSortC X.K) := by
  rintro pins s σ H vs us Q I r ⟨a, c, rfl, here, dps, ali, sor, q⟩
  have fin : ∀ (its : List Value) (out : List Value), c.length ≤ sizeLine → PySem.W.EachIs (fun v b => RelV b.2 v) out (c.mergeSort (PySem.W.dataLe false fun b => toD b.1)) → EP X pins σ Q (.ref (s.heap.objs.size + 1)) { s with heap := PyProof.Rows.sortedAll s.heap its out.toArray } := fun its out few h1 => by
    obtain ⟨ep, at_new⟩ := PyProof.Rows.sortedAll_at s.heap its out.toArray
    refine ⟨.ref _, upd H (s.heap.objs.size + 1) (.lst ((c.mergeSort (PySem.W.dataLe false fun b => toD b.1)).map (·.2))), I.laid (t' := s.toks) (fun _ _ => PyProof.Rows.sortedAll_old) (Nat.le_succ _) ⟨?_, out, ep, rel_each h1, at_new⟩, rfl, q _ (I.hok.fresh (Nat.le_succ _))⟩
    rw [List.length_map, List.length_mergeSort]; exact few
  have room : ∀ b, b ∈ c → X.A.units + 2 + (toD b.1).depth < cLine := fun b hb => by have := (dps b hb).2; omega
  rw [Vals.ref1 r]
  rcases here with here | here
  · obtain ⟨its, rv, pl, few⟩ := I.list here
    rw [List.length_map] at few
    exact PySem.W.sorted_data pl.isList (each_rel rv) (each_reads I dps rv) ali sor few room fun out h0 h1 => fin its out few h1
  · obtain ⟨its, rv, tup, few⟩ := I.tuple here
    rw [List.length_map] at few
    have len : its.length = c.length := by rw [← rv.length, List.length_map]
    refine PLraw.sorted_tupK (R := fun out => PySem.W.EachIs (fun v b => RelV b.2 v) out.toList (c.mergeSort (PySem.W.dataLe false fun b => toD b.1))) tup (by omega) (fun t ax P at_b stay k E => ?_) fun out h1 => ?_
    · have er : PySem.W.EachIs (fun v b => ∃ as, Reads (PySem.W.sortingHeap t.heap ax its) v (toD b.1) as) its c := (each_reads I dps rv).mono fun _ _ ⟨as, rd⟩ => ⟨as, PyProof.Rows.Reads.keeps (fun x o e => PySem.W.sortingHeap_old (stay x o e).1 (stay x o e).2) rd⟩
      refine PySem.W.list_sort_vals (κ := PySem.W.dataKind (PySem.W.sortingHeap t.heap ax its) (c.map fun b : PV × V => toD b.1)) at_b (PySem.W.SortsAt.data (s := { t with heap := PySem.W.sortingHeap t.heap ax its }) (PySem.W.each_map (R := fun v d => ∃ as, Reads (PySem.W.sortingHeap t.heap ax its) v d as) (fun b : PV × V => toD b.1) er) ali sor (PySem.W.bound_map room)) (by omega) (k _ ?_)
      rw [List.toList_toArray]
      exact PySem.W.sortVals_data false (each_rel rv) er ali
    · have z := fin its out.toList few h1
      rw [Array.toArray_toList] at z
      exact z
def sortDP (K : Kf) : RCp := fun xs M Q => ∃ l : List PV, (match xs with | [.tup l'] => l' = l | [.ref a] => rdL K M a l | _ => False) ∧ (∀ x ∈ l, PureD 40 x) ∧ PySem.W.AllAlike (l.map toD) ∧ PySem.W.Sortable (l.map toD) ∧
  ∀ p, M p = none → Q (.ref p) (updM M p (.lst (l.mergeSort (PySem.W.dataLe false toD))))
theorem reps_zip {H : Hp} : ∀ {l : List PV} {vs : List V}, Reps K H l vs → (l.zip vs).map (·.1) = l ∧ (l.zip vs).map (·.2) = vs ∧ ∀ b ∈ l.zip vs, Rep K H b.1 b.2 ∧ b.1 ∈ l
  | _, _, .nil => ⟨rfl, rfl, fun _ h => nomatch h⟩
  | _, _, .cons (p := p) (v := v) r t => by
    obtain ⟨h1, h2, h3⟩ := reps_zip t
    refine ⟨congrArg (p :: ·) h1, congrArg (v :: ·) h2, fun b hb => ?_⟩
    rcases List.mem_cons.mp hb with rfl | hb
    · exact ⟨r, List.mem_cons_self⟩
    · exact ⟨(h3 b hb).1, List.mem_cons_of_mem _ (h3 b hb).2⟩
theorem zip_reps {H : Hp} : ∀ {c : List (PV × V)}, (∀ b ∈ c, Rep K H b.1 b.2) → Reps K H (c.map (·.1)) (c.map (·.2))
  | [], _ => .nil
  | b :: _, h => .cons (h b List.mem_cons_self) (zip_reps fun y hy => h y (List.mem_cons_of_mem _ hy))
theorem cSortD (hu : X.A.units + 64 < cLine) : CallP X (.builtin "sorted") (sortDP X.K) := by
  refine ⟨_, cr_sortC hu, fun xs H ps M Q Qp rs m u k => ?_⟩
  obtain ⟨l, u, pure, ali, sor, q⟩ := u
  have go : ∀ (a : Addr) (vs : List V), (SqL X.K H a vs ∨ SqT X.K H a vs) → Reps X.K H l vs → rSortC X.K [V.ref a] H Q := fun a vs here r => by
    obtain ⟨z1, z2, z3⟩ := reps_zip r
    have e1 : ((l.zip vs).map fun b => toD b.1) = l.map toD := by have h := congrArg (List.map toD) z1; rw [List.map_map] at h; exact h
    refine ⟨a, l.zip vs, rfl, by rw [z2]; exact here, fun b hb => ⟨(pure _ (z3 b hb).2).dp.to m (z3 b hb).1, (pure _ (z3 b hb).2).depth⟩, by rw [e1]; exact ali, by rw [e1]; exact sor, fun p hp => ?_⟩
    have perm := List.mergeSort_perm (l.zip vs) (PySem.W.dataLe false fun b => toD b.1)
    have rr : Reps X.K H (((l.zip vs).mergeSort (PySem.W.dataLe false fun b => toD b.1)).map (·.1)) (((l.zip vs).mergeSort (PySem.W.dataLe false fun b => toD b.1)).map (·.2)) := zip_reps fun b hb => (z3 b (perm.mem_iff.mp hb)).1
    have e2 : ((l.zip vs).mergeSort (PySem.W.dataLe false fun b => toD b.1)).map (·.1) = l.mergeSort (PySem.W.dataLe false toD) := by
      have := List.map_mergeSort (r := PySem.W.dataLe false fun b : PV × V => toD b.1) (s := PySem.W.dataLe false toD) (f := (·.1)) (l := l.zip vs) (fun _ _ _ _ => rfl)
      rw [z1] at this; exact this
    rw [e2] at rr
    exact new_lst m hp rr q k
  cases rs with
  | nil => exact u.elim
  | cons r rr => cases rr with
    | cons _ _ => cases r <;> exact u.elim
    | nil => cases r with
      | tup h r =>
        subst u
        exact go _ _ (.inr h.t) r
      | ref a =>
        obtain ⟨vs, e, r⟩ := u.to m
        exact go _ _ (.inl e) r
      | _ => exact u.elim
theorem cSortDK (hu : X.A.units + 64 < cLine) (hK : X.K = K := by rfl) : CallP X (.builtin "sorted") (sortDP K) := hK ▸ cSortD hu
end
end PL

set_option Elab.async false
set_option linter.all false
set_option maxRecDepth 100000
set_option maxHeartbeats 4000000
/-! PL13: dict(zip(t, u)) of two tuples; dicts with whole numbers and texts as keys. -/
namespace PLz
open PySem PySem.Spec PySem.Calls PyProof.Rows
section
variable {prog : Program} {w : World} {A : Around} {E : Value → Shared → Prop} {s : Shared}
/-- the next pair of a zip of tuples whose last pair is still out -/
theorem next_held {zp ti to_ T j1 j2 t1 t2 : Addr} {f : Bool} {oT : Obj} {k1 k2 : Nat} {xs ys : Array Value} {x y : Value} {Q : Value → Shared → Prop} (D : ZipApart zp ti to_ j1 j2 t1 t2)
    (hz : IsZipHeld s.heap zp ti to_ T f) (hT : s.heap.get? T = some oT) (hp : IsPair s.heap ti (.ref j1) (.ref j2))
    (h1 : s.heap.IsTupleIter j1 t1 k1) (h2 : s.heap.IsTupleIter j2 t2 k2) (ht1 : s.heap.IsTuple t1 xs) (ht2 : s.heap.IsTuple t2 ys) (hx : xs[k1]? = some x) (hy : ys[k2]? = some y)
    (fin : ∀ h', IsZipHeld h' zp ti to_ T true → h'.IsTupleIter j1 t1 (k1 + 1) → h'.IsTupleIter j2 t2 (k2 + 1) → IsPair h' s.heap.objs.size x y → h'.objs.size = s.heap.objs.size + 1 →
      (∀ c o, c ≠ zp → c ≠ j1 → c ≠ j2 → s.heap.get? c = some o → h'.get? c = some o) → Q (.ref s.heap.objs.size) { s with heap := h' }) :
    wpAny (model prog w) A (Builtin.«zip.__next__» ⟨[.ref zp], []⟩) (fun e s' => ∃ v, e = .done (.ret v) ∧ Q v s') E s := by
  change wpAny _ _ (field (.ref zp) 2 >>= _) _ _ _
  refine wpAny_bind (wpAny_field hz rfl (x := Value.bool false) rfl ?_)
  change wpAny _ _ (field (.ref zp) 3 >>= _) _ _ _
  refine wpAny_bind (wpAny_field hz rfl (x := Value.ref ti) rfl (wpAny_bind (wpAny_seqItems hp rfl ?_)))
  change wpAny _ _ (Builtin.SmallTypes.ownedTupleIsFree (.ref zp) >>= _) _ _ _
  refine wpAny_bind (wpAny_tupleHeld_zip hz hT fun ha hza sa => ?_)
  simp only [Bool.false_eq_true, if_false]
  rw [← Array.forIn_toList]
  simp only [List.forIn_cons, List.forIn_nil]
  refine wpAny_bind (wpAny_bind (wpAny_bind (wpAny_holding ?_)))
  change wpAny _ _ (Builtin.SmallTypes.nextOf (.ref j1) >>= _) _ _ _
  refine wpAny_bind (RZ.nextOf_tuple_item (s := { s with heap := ha }) (h1.extBut sa.extBut D.i1z) (ht1.extBut sa.extBut D.l1z) hx fun hb h1b sb => wpAny_pure (wpAny_pure (wpAny_bind (wpAny_bind (wpAny_holding ?_)))))
  change wpAny _ _ (Builtin.SmallTypes.nextOf (.ref j2) >>= _) _ _ _
  refine wpAny_bind (RZ.nextOf_tuple_item (s := { s with heap := hb }) ((h2.extBut sa.extBut D.i2z).extBut sb.extBut D.i12.symm) ((ht2.extBut sa.extBut D.l2z).extBut sb.extBut D.l2i1) hy fun hc h2c sc => wpAny_pure (wpAny_pure (wpAny_pure ?_)))
  change wpAny _ _ (newTuple [x, y] >>= _) _ _ _
  refine wpAny_bind (wpAny_newTuple ?_)
  have size : hc.objs.size = s.heap.objs.size := by rw [sc.1, sb.1, sa.1]
  have hzc : IsZipHeld hc zp ti to_ T true := sc.extBut _ _ D.i2z.symm (sb.extBut _ _ D.i1z.symm hza)
  have stay : ∀ c o, c ≠ zp → c ≠ j1 → c ≠ j2 → s.heap.get? c = some o → hc.get? c = some o := fun c o n1 n2 n3 e => sc.extBut _ _ n3 (sb.extBut _ _ n2 (sa.extBut _ _ n1 e))
  refine wpAny_pure ⟨_, rfl, ?_⟩
  change Q (.ref hc.objs.size) _
  have pair : IsPair (hc.push { cls := .type "tuple", data := .seq #[x, y] }) hc.objs.size x y := Heap.get?_push_size _ rfl
  have more : (hc.push { cls := .type "tuple", data := .seq #[x, y] }).objs.size = hc.objs.size + 1 := Heap.size_push ..
  rw [size] at pair more ⊢
  exact fin _ (Heap.get?_push_of_some _ hzc) ((h1b.extBut sc.extBut D.i12).at fun o e => Heap.get?_push_of_some _ e) (h2c.at fun o e => Heap.get?_push_of_some _ e) pair more fun c o n1 n2 n3 e => Heap.get?_push_of_some _ (stay c o n1 n2 n3 e)
theorem end_held {zp ti to_ T j1 j2 t1 t2 : Addr} {f : Bool} {oT : Obj} {k1 k2 : Nat} {xs ys : Array Value} {Q : Fin → Shared → Prop} (calm : A.handled = none) (D : ZipApart zp ti to_ j1 j2 t1 t2)
    (hz : IsZipHeld s.heap zp ti to_ T f) (hT : s.heap.get? T = some oT) (hp : IsPair s.heap ti (.ref j1) (.ref j2))
    (h1 : s.heap.IsTupleIter j1 t1 k1) (h2 : s.heap.IsTupleIter j2 t2 k2) (ht1 : s.heap.IsTuple t1 xs) (ht2 : s.heap.IsTuple t2 ys) (last : xs[k1]? = none ∨ ys[k2]? = none)
    (stop : ∀ h' e, (∀ c o, c ≠ zp → c ≠ j1 → c ≠ j2 → s.heap.get? c = some o → h'.get? c = some o) → (∃ o, h'.get? e = some o ∧ o.cls = .type "StopIteration") → E (.ref e) { s with heap := h' }) :
    wpAny (model prog w) A (Builtin.«zip.__next__» ⟨[.ref zp], []⟩) Q E s := by
  change wpAny _ _ (field (.ref zp) 2 >>= _) _ _ _
  refine wpAny_bind (wpAny_field hz rfl (x := Value.bool false) rfl ?_)
  change wpAny _ _ (field (.ref zp) 3 >>= _) _ _ _
  refine wpAny_bind (wpAny_field hz rfl (x := Value.ref ti) rfl (wpAny_bind (wpAny_seqItems hp rfl ?_)))
  change wpAny _ _ (Builtin.SmallTypes.ownedTupleIsFree (.ref zp) >>= _) _ _ _
  refine wpAny_bind (wpAny_tupleHeld_zip hz hT fun ha hza sa => ?_)
  simp only [Bool.false_eq_true, if_false]
  rw [← Array.forIn_toList]
  simp only [List.forIn_cons, List.forIn_nil]
  refine wpAny_bind (wpAny_bind (wpAny_bind (wpAny_holding ?_)))
  change wpAny _ _ (Builtin.SmallTypes.nextOf (.ref j1) >>= _) _ _ _
  cases hx : xs[k1]? with
  | none =>
    refine wpAny_bind (RZ.nextOf_tuple_end (s := { s with heap := ha }) calm (h1.extBut sa.extBut D.i1z) (ht1.extBut sa.extBut D.l1z) hx fun hb e sb he => ?_)
    exact stop hb e (fun c o n1 n2 _ q => sb _ _ n2 (sa.extBut _ _ n1 q)) he
  | some x =>
    have hy : ys[k2]? = none := last.resolve_left fun q => by rw [hx] at q; cases q
    refine wpAny_bind (RZ.nextOf_tuple_item (s := { s with heap := ha }) (h1.extBut sa.extBut D.i1z) (ht1.extBut sa.extBut D.l1z) hx fun hb h1b sb => wpAny_pure (wpAny_pure (wpAny_bind (wpAny_bind (wpAny_holding ?_)))))
    change wpAny _ _ (Builtin.SmallTypes.nextOf (.ref j2) >>= _) _ _ _
    refine wpAny_bind (RZ.nextOf_tuple_end (s := { s with heap := hb }) calm ((h2.extBut sa.extBut D.i2z).extBut sb.extBut D.i12.symm) ((ht2.extBut sa.extBut D.l2z).extBut sb.extBut D.l2i1) hy fun hc e sc he => ?_)
    exact stop hc e (fun c o n1 n2 n3 q => sc _ _ n3 (sb.extBut _ _ n2 (sa.extBut _ _ n1 q))) he
theorem pyNext_held {zp ti to_ T j1 j2 t1 t2 : Addr} {f : Bool} {oT : Obj} {k1 k2 : Nat} {xs ys : Array Value} {x y : Value} {Q : Option Value → Shared → Prop} (D : ZipApart zp ti to_ j1 j2 t1 t2)
    (hz : IsZipHeld s.heap zp ti to_ T f) (hT : s.heap.get? T = some oT) (hp : IsPair s.heap ti (.ref j1) (.ref j2))
    (h1 : s.heap.IsTupleIter j1 t1 k1) (h2 : s.heap.IsTupleIter j2 t2 k2) (ht1 : s.heap.IsTuple t1 xs) (ht2 : s.heap.IsTuple t2 ys) (hx : xs[k1]? = some x) (hy : ys[k2]? = some y)
    (fin : ∀ h', IsZipHeld h' zp ti to_ T true → h'.IsTupleIter j1 t1 (k1 + 1) → h'.IsTupleIter j2 t2 (k2 + 1) → IsPair h' s.heap.objs.size x y → h'.objs.size = s.heap.objs.size + 1 →
      (∀ c o, c ≠ zp → c ≠ j1 → c ≠ j2 → s.heap.get? c = some o → h'.get? c = some o) → Q (some (.ref s.heap.objs.size)) { s with heap := h' }) :
    wpAny (model prog w) A (pyNext (.ref zp)) Q E s := by
  have isZ : s.TypeIs (.ref zp) "zip" := ⟨_, hz, rfl⟩
  unfold pyNext
  exact wpAny_bind (wpAny_attempt (wpAny_callSpecial?_slot (name := Str.ofString "__next__") isZ F.slot_zip_next
    (wpAny_call_entry F.slot_zip_next isZ F.entry_zip_next (next_held D hz hT hp h1 h2 ht1 ht2 hx hy fun h' a1 a2 a3 a4 a5 a6 => wpAny_pure (fin h' a1 a2 a3 a4 a5 a6)) (F.args_zip_next_1 _))))
theorem pyNext_end_held {zp ti to_ T j1 j2 t1 t2 : Addr} {f : Bool} {oT : Obj} {k1 k2 : Nat} {xs ys : Array Value} {Q : Option Value → Shared → Prop} (calm : A.handled = none) (D : ZipApart zp ti to_ j1 j2 t1 t2)
    (hz : IsZipHeld s.heap zp ti to_ T f) (hT : s.heap.get? T = some oT) (hp : IsPair s.heap ti (.ref j1) (.ref j2))
    (h1 : s.heap.IsTupleIter j1 t1 k1) (h2 : s.heap.IsTupleIter j2 t2 k2) (ht1 : s.heap.IsTuple t1 xs) (ht2 : s.heap.IsTuple t2 ys) (last : xs[k1]? = none ∨ ys[k2]? = none)
    (stop : ∀ h', (∀ c o, c ≠ zp → c ≠ j1 → c ≠ j2 → s.heap.get? c = some o → h'.get? c = some o) → Q none { s with heap := h' }) : wpAny (model prog w) A (pyNext (.ref zp)) Q E s := by
  have isZ : s.TypeIs (.ref zp) "zip" := ⟨_, hz, rfl⟩
  unfold pyNext
  refine wpAny_bind (wpAny_attempt (wpAny_callSpecial?_slot (name := Str.ofString "__next__") isZ F.slot_zip_next
    (wpAny_call_entry F.slot_zip_next isZ F.entry_zip_next (end_held calm D hz hT hp h1 h2 ht1 ht2 last fun h' e hk ⟨o, ho, hc⟩ => ?_) (F.args_zip_next_1 _))))
  exact wpAny_bind (wpAny_isInstance (T := "StopIteration") (b := true) ⟨o, ho, hc⟩ isSubtype_stop (wpAny_pure (stop _ hk)))
/-- where a zip of two tuples stands behind k turns, while a dict at d is filled -/
def ZSt (zp ti to_ j1 j2 t1 t2 d : Addr) (xs ys : Array Value) (k : Nat) (h : Heap) : Prop :=
  IsPair h ti (.ref j1) (.ref j2) ∧ h.IsTupleIter j1 t1 k ∧ h.IsTupleIter j2 t2 k ∧ h.IsTuple t1 xs ∧ h.IsTuple t2 ys ∧
    ((IsZip h zp ti to_ .none ∧ ∃ a b, IsPair h to_ a b) ∨ ∃ T f oT, IsZipHeld h zp ti to_ T f ∧ h.get? T = some oT ∧ T ≠ zp ∧ T ≠ j1 ∧ T ≠ j2 ∧ T ≠ d)
theorem not4 {c a1 a2 a3 a4 : Addr} (h : c ∉ [a1, a2, a3, a4]) : c ≠ a1 ∧ c ≠ a2 ∧ c ≠ a3 ∧ c ≠ a4 := by
  simp only [List.mem_cons, List.not_mem_nil, or_false, not_or] at h; exact h
theorem zst_src {zp ti to_ j1 j2 t1 t2 d : Addr} (D : ZipApart zp ti to_ j1 j2 t1 t2) (calm : A.handled = none) {xs ys : Array Value} (off : d ≠ zp ∧ d ≠ ti ∧ d ≠ to_ ∧ d ≠ j1 ∧ d ≠ j2 ∧ d ≠ t1 ∧ d ≠ t2) :
    PairSrc prog w A zp d [zp, to_, j1, j2] (min xs.size ys.size) (fun i k v => xs[i]? = some k ∧ ys[i]? = some v) (ZSt zp ti to_ j1 j2 t1 t2 d xs ys) where
  off := fun hm => by
    obtain ⟨dz, _, dto, dj1, dj2, _⟩ := off
    rcases List.mem_cons.mp hm with e | hm
    · exact dz e
    rcases List.mem_cons.mp hm with e | hm
    · exact dto e
    rcases List.mem_cons.mp hm with e | hm
    · exact dj1 e
    exact dj2 (List.mem_singleton.mp hm)
  frame := fun i ha hb st hk => by
    obtain ⟨dz, dti, dto, dj1, dj2, dt1, dt2⟩ := off
    obtain ⟨hp, h1, h2, ht1, ht2, hz⟩ := st
    refine ⟨hk _ _ dti.symm hp, h1.at fun o e => hk _ o dj1.symm e, h2.at fun o e => hk _ o dj2.symm e, ht1.at fun o e => hk _ o dt1.symm e, ht2.at fun o e => hk _ o dt2.symm e, ?_⟩
    rcases hz with ⟨hz, a, b, hto⟩ | ⟨T, f, oT, hz, hT, n1, n2, n3, n4⟩
    · exact .inl ⟨hk _ _ dz.symm hz, a, b, hk _ _ dto.symm hto⟩
    · exact .inr ⟨T, f, oT, hk _ _ dz.symm hz, hk _ _ n4 hT, n1, n2, n3, n4⟩
  item := fun i st Q1 E1 hi zs under fin => by
    obtain ⟨hp, h1, h2, ht1, ht2, hz⟩ := zs
    have gx := Array.getElem?_eq_getElem (xs := xs) (i := i) (Nat.lt_of_lt_of_le hi (Nat.min_le_left ..))
    have gy := Array.getElem?_eq_getElem (xs := ys) (i := i) (Nat.lt_of_lt_of_le hi (Nat.min_le_right ..))
    have new : ∀ {c o}, st.heap.get? c = some o → st.heap.objs.size ≠ c := fun e => Nat.ne_of_gt (Heap.lt_size e)
    have m1 : st.heap.objs.size ≠ j1 := let ⟨_, e, _⟩ := h1; new e
    have m2 : st.heap.objs.size ≠ j2 := let ⟨_, e, _⟩ := h2; new e
    rcases hz with ⟨hz, a, b, hto⟩ | ⟨T, f, oT, hz, hT, n1, n2, n3, n4⟩
    · refine RZ.pyNext_zipT_item D hz hp hto h1 h2 ht1 ht2 gx gy fun h' a1 a2 a3 a4 a5 a6 hk => ?_
      refine fin st.heap.objs.size _ _ h' st.toks ⟨gx, gy⟩ (.inl ⟨_, a5, rfl, _, rfl⟩) ⟨hk _ _ D.TIz D.TITO D.TIi1 D.TIi2 hp, a3, a4, ht1.at fun o e => hk _ o D.l1z D.l1TO D.l1i1 D.l1i2 e, ht2.at fun o e => hk _ o D.l2z D.l2TO D.l2i1 D.l2i2 e, .inr ⟨st.heap.objs.size, false, _, a1, a5, new hz, m1, m2, Nat.ne_of_gt under⟩⟩ fun c o nc e => ?_
      obtain ⟨c1, c2, c3, c4⟩ := not4 nc
      exact hk c o c1 c2 c3 c4 e
    · refine pyNext_held D hz hT hp h1 h2 ht1 ht2 gx gy fun h' a1 a3 a4 a5 a6 hk => ?_
      refine fin st.heap.objs.size _ _ h' st.toks ⟨gx, gy⟩ (.inl ⟨_, a5, rfl, _, rfl⟩) ⟨hk _ _ D.TIz D.TIi1 D.TIi2 hp, a3, a4, ht1.at fun o e => hk _ o D.l1z D.l1i1 D.l1i2 e, ht2.at fun o e => hk _ o D.l2z D.l2i1 D.l2i2 e, .inr ⟨T, true, oT, a1, hk _ _ n1 n2 n3 hT, n1, n2, n3, n4⟩⟩ fun c o nc e => ?_
      obtain ⟨c1, _, c3, c4⟩ := not4 nc
      exact hk c o c1 c3 c4 e
  done := fun st Q1 E1 zs fin => by
    obtain ⟨hp, h1, h2, ht1, ht2, hz⟩ := zs
    have last : xs[min xs.size ys.size]? = none ∨ ys[min xs.size ys.size]? = none := by
      rcases Nat.le_total xs.size ys.size with h | h
      · left; rw [Nat.min_eq_left h]; exact Array.getElem?_eq_none (Nat.le_refl _)
      · right; rw [Nat.min_eq_right h]; exact Array.getElem?_eq_none (Nat.le_refl _)
    rcases hz with ⟨hz, a, b, hto⟩ | ⟨T, f, oT, hz, hT, n1, n2, n3, n4⟩
    · refine RZ.pyNext_zipT_end calm D hz hp hto h1 h2 ht1 ht2 last fun h' hk => fin h' st.toks fun c o nc e => ?_
      obtain ⟨c1, c2, c3, c4⟩ := not4 nc
      exact hk c o c1 c2 c3 c4 e
    · refine pyNext_end_held calm D hz hT hp h1 h2 ht1 ht2 last fun h' hk => fin h' st.toks fun c o nc e => ?_
      obtain ⟨c1, _, c3, c4⟩ := not4 nc
      exact hk c o c1 c3 c4 e
theorem zip_arg (zp ti to_ j1 j2 t1 t2 : Addr) (D : ZipApart zp ti to_ j1 j2 t1 t2) (xs ys : Array Value) :
    PairArg prog w "zip" zp [zp, ti, to_, j1, j2, t1, t2] [zp, to_, j1, j2] (min xs.size ys.size) (fun i k v => xs[i]? = some k ∧ ys[i]? = some v)
      (fun h => IsZip h zp ti to_ .none ∧ IsPair h ti (.ref j1) (.ref j2) ∧ (∃ a b, IsPair h to_ a b) ∧ h.IsTupleIter j1 t1 0 ∧ h.IsTupleIter j2 t2 0 ∧ h.IsTuple t1 xs ∧ h.IsTuple t2 ys) where
  type := fun _ all => ⟨_, all.1, rfl⟩
  notDict := by decide
  keep := fun ha hb ⟨hz, hp, ⟨a, b, hto⟩, h1, h2, ht1, ht2⟩ hk =>
    ⟨hk _ _ hz, hk _ _ hp, ⟨a, b, hk _ _ hto⟩, h1.at fun o e => hk _ o e, h2.at fun o e => hk _ o e, ht1.at fun o e => hk _ o e, ht2.at fun o e => hk _ o e⟩
  there := fun h all b hb => by
    obtain ⟨hz, hp, ⟨a, c, hto⟩, ⟨o1, h1, _⟩, ⟨o2, h2, _⟩, ⟨o3, ht1, _⟩, ⟨o4, ht2, _⟩⟩ := all
    simp only [List.mem_cons, List.not_mem_nil, or_false] at hb
    obtain e | e | e | e | e | e | e := hb <;> subst e
    · exact ⟨_, hz⟩
    · exact ⟨_, hp⟩
    · exact ⟨_, hto⟩
    · exact ⟨_, h1⟩
    · exact ⟨_, h2⟩
    · exact ⟨_, ht1⟩
    · exact ⟨_, ht2⟩
  sub := fun b hb => by
    simp only [List.mem_cons, List.not_mem_nil, or_false] at hb ⊢
    obtain e | e | e | e := hb <;> subst e <;> simp
  noKeys := fun _ _ _ _ calm all h => getAttrOr_miss_zip all.1 rfl rfl rfl zip_no_keys (by decide +kernel) calm h
  iter := fun A s d Q E calm all under off h => by
    obtain ⟨hz, hp, hto, h1, h2, ht1, ht2⟩ := all
    simp only [List.mem_cons, List.not_mem_nil, or_false, not_or] at off
    exact wpAny_pyIter_zip hz (h zp _ _ s.heap s.toks (zst_src D calm off) ⟨hp, h1, h2, ht1, ht2, .inl ⟨hz, hto⟩⟩ (fun _ _ e => e) fun b hb => .inl hb)
/-- dict(zip(t, u)) -/
theorem dict_zip {κ : Type} [DecidableEq κ] {knd : PySem.KeyKind prog w κ} {t1 t2 : Addr} {xs ys : Array Value} {kvs : List (κ × Value)} {Q : Value → Shared → Prop} (calm : A.handled = none) {zp ti to_ j1 j2 : Addr} (D : ZipApart zp ti to_ j1 j2 t1 t2)
    (all : IsZip s.heap zp ti to_ .none ∧ IsPair s.heap ti (.ref j1) (.ref j2) ∧ (∃ a b, IsPair s.heap to_ a b) ∧ s.heap.IsTupleIter j1 t1 0 ∧ s.heap.IsTupleIter j2 t2 0 ∧ s.heap.IsTuple t1 xs ∧ s.heap.IsTuple t2 ys)
    (keys : PairsHave knd (min xs.size ys.size) (fun i k v => xs[i]? = some k ∧ ys[i]? = some v) kvs) (few : min xs.size ys.size ≤ sizeLine)
    (fin : ∀ h' tk, h'.DictOf knd s.heap.objs.size (merged [] kvs) → (∀ b o, b ∉ [zp, to_, j1, j2] → s.heap.get? b = some o → h'.get? b = some o) → Q (.ref s.heap.objs.size) { s with heap := h', toks := tk }) :
    wpAny (model prog w) A (call (.type "dict") [.ref zp]) Q E s :=
  call_dict_pairs (zip_arg zp ti to_ j1 j2 t1 t2 D xs ys) calm all keys few fin
end
end PLz
namespace PL
open PySem PySem.Spec L2 PyProof.Rows
/-! ### an entry of the abstract heap told otherwise -/
section
variable {X : Cx} {pins : List (Addr × Obj)} {σ : L2.St} {H : Hp} {s : Shared} {d : Addr} {u v : HO}
theorem swap_inv (I : Inv X pins σ H s) (hd : H d = some u) (tup : ∀ xs, u ≠ .tup xs) (tbl : ∀ ps, u ≠ .tbl ps) (own : ∀ b, u ≠ .own b) (fr : ∀ o w, X.H_0 d ≠ some (.frz o w)) (ok : ObjOk X.prog X.w (upd H d v) s.heap d v) : Inv X pins σ (upd H d v) s := by
  have off : ∀ {b : Addr}, H b = none → b ≠ d := fun e q => by rw [q, hd] at e; cases e
  have same : ∀ {b : Addr}, H b = none → upd H d v b = none := fun e => by rw [upd_ne (off e)]; exact e
  refine ⟨I.ok, I.os, I.bare, ⟨I.base.keep, I.base.slot, fun b o e n hx => same (I.base.free b o e n hx), I.base.there, fun b xs e => ?_, fun b o w e => ?_, fun b ps e => ?_⟩, I.loc, I.cell, same I.free, fun x c e => same (I.freeC x c e), fun p hp => ?_, fun a o e => ?_, I.len⟩
  · have e1 := I.base.tups b xs e
    have n : b ≠ d := fun q => by rw [q, hd] at e1; cases e1; exact tup _ rfl
    rw [upd_ne n]; exact e1
  · have n : b ≠ d := fun q => by rw [q] at e; exact fr _ _ e
    rw [upd_ne n]; exact I.base.frzs b o w e
  · obtain ⟨more, e1⟩ := I.base.tbls b ps e
    have n : b ≠ d := fun q => by rw [q, hd] at e1; cases e1; exact tbl _ rfl
    exact ⟨more, by rw [upd_ne n]; exact e1⟩
  · obtain ⟨h1, h2, h3⟩ := I.pin p hp
    exact ⟨h1, same h2, h3⟩
  · by_cases q : a = d
    · subst q
      rw [upd_same] at e; cases e
      exact ok
    · rw [upd_ne q] at e
      refine (I.hok a o e).stay (fun b w _ z => z) (fun b z => ?_) fun b xs z => ?_
      · have n : b ≠ d := fun q => by rw [q, hd] at z; cases z; exact own _ rfl
        rw [upd_ne n]; exact z
      · have n : b ≠ d := fun q => by rw [q, hd] at z; cases z; exact tup _ rfl
        rw [upd_ne n]; exact z
/-- a dict held still while e is found -/
theorem pe_still {e : Expr} {t : TE} (h : PE X e t) : PE X e (fun σ H Q => ∃ d kvs, H d = some (.dK kvs) ∧ ∀ o, t σ (upd H d (.frz o (.dK kvs))) fun x H' => ∃ o' kvs', H' d = some (.frz o' (.dK kvs')) ∧ Q x (upd H' d (.dK kvs'))) := by
  refine ⟨fun pins s σ H Q I want => ?_⟩
  obtain ⟨d, kvs, hd, want⟩ := want
  have ok := I.hok d _ hd
  obtain ⟨few, off, vs, rel, dd⟩ := (show ObjOk X.prog X.w H s.heap d (.dK kvs) from ok)
  obtain ⟨ob, es, ep, e1, e2⟩ := id dd
  have fr : ∀ o w, X.H_0 d ≠ some (.frz o w) := fun o w z => by
    have := I.base.frzs d o w z
    rw [hd] at this; cases this
  have I1 := swap_inv (v := .frz ob (.dK kvs)) I hd (fun _ z => by cases z) (fun _ z => by cases z) (fun _ z => by cases z) fr ⟨e1, few, off, vs, rel, dd⟩
  refine thn (h.run pins s σ _ _ I1 (want ob)) fun r s1 ⟨x, H1, I2, rx, o', kvs', h1, q⟩ => ?_
  obtain ⟨_, ok1⟩ := (show ObjOk X.prog X.w H1 s1.heap d (.frz o' (.dK kvs')) from I2.hok d _ h1)
  exact ⟨x, _, swap_inv (v := .dK kvs') I2 h1 (fun _ z => by cases z) (fun _ z => by cases z) (fun _ z => by cases z) fr ok1, rx, q⟩
end
/-! ### keys, tables -/
def kP : Key → PV
  | .inl i => .int i
  | .inr x => .str x
theorem kP_rep {K : Kf} {H : Hp} : ∀ k : Key, Rep K H (kP k) (kV k)
  | .inl i => .int i
  | .inr x => .str x
theorem kP_inv {K : Kf} {H : Hp} {k : Key} {v : V} (h : Rep K H (kP k) v) : v = kV k := by
  cases k with
  | inl i => cases h; rfl
  | inr x => cases h; rfl
def valP (kvs : List (Key × PV)) (k : Key) : Option PV := (kvs.find? fun kv => decide (kv.1 = k)).map (·.2)
def putP (kvs : List (Key × PV)) (k : Key) (v : PV) : List (Key × PV) :=
  if (kvs.any fun kv => decide (kv.1 = k)) = true then kvs.map (fun kv => if kv.1 = k then (kv.1, v) else kv) else kvs ++ [(k, v)]
def mergeP (kvs more : List (Key × PV)) : List (Key × PV) := more.foldl (fun acc kv => putP acc kv.1 kv.2) kvs
section
variable {K : Kf} {H : Hp}
theorem RepKV.len {ps : List (Key × PV)} {vs : List (Key × V)} (h : RepKV K H ps vs) : ps.length = vs.length := by
  induction h with
  | nil => rfl
  | cons _ _ ih => exact congrArg (· + 1) ih
theorem RepKV.any {ps : List (Key × PV)} {vs : List (Key × V)} (h : RepKV K H ps vs) (k : Key) : (ps.any fun kv => decide (kv.1 = k)) = vs.any fun kv => decide (kv.1 = k) := by
  induction h with
  | nil => rfl
  | cons _ _ ih => rw [List.any_cons, List.any_cons, ih]
theorem RepKV.val {ps : List (Key × PV)} {vs : List (Key × V)} (h : RepKV K H ps vs) (k : Key) : (valP ps k = none ∧ valV vs k = none) ∨ ∃ p v, valP ps k = some p ∧ valV vs k = some v ∧ Rep K H p v := by
  induction h with
  | nil => exact .inl ⟨rfl, rfl⟩
  | @cons j p v ps vs r _ ih =>
    by_cases e : j = k
    · exact .inr ⟨p, v, by simp [valP, e], by simp [valV, e], r⟩
    · have e1 : valP ((j, p) :: ps) k = valP ps k := by simp [valP, List.find?_cons, e]
      have e2 : valV ((j, v) :: vs) k = valV vs k := by simp [valV, List.find?_cons, e]
      rw [e1, e2]; exact ih
theorem RepKV.snoc {ps : List (Key × PV)} {vs : List (Key × V)} (h : RepKV K H ps vs) {k : Key} {p : PV} {v : V} (r : Rep K H p v) : RepKV K H (ps ++ [(k, p)]) (vs ++ [(k, v)]) := by
  induction h with
  | nil => exact .cons r .nil
  | cons a _ ih => exact .cons a ih
theorem RepKV.repl {ps : List (Key × PV)} {vs : List (Key × V)} (h : RepKV K H ps vs) (k : Key) {p : PV} {v : V} (r : Rep K H p v) : RepKV K H (ps.map fun kv => if kv.1 = k then (kv.1, p) else kv) (vs.map fun kv => if kv.1 = k then (kv.1, v) else kv) := by
  induction h with
  | nil => exact .nil
  | @cons j p' v' ps vs a _ ih =>
    rw [List.map_cons, List.map_cons]
    by_cases e : j = k
    · simp only [if_pos e]; exact .cons r ih
    · simp only [if_neg e]; exact .cons a ih
theorem RepKV.put {ps : List (Key × PV)} {vs : List (Key × V)} (h : RepKV K H ps vs) (k : Key) {p : PV} {v : V} (r : Rep K H p v) : RepKV K H (putP ps k p) (putK vs k v) := by
  have any := h.any k
  unfold putP putK
  rw [← any]
  split
  · exact h.repl k r
  · exact h.snoc r
theorem RepKV.merge {more : List (Key × PV)} {mv : List (Key × V)} (hm : RepKV K H more mv) : ∀ {ps : List (Key × PV)} {vs : List (Key × V)}, RepKV K H ps vs → RepKV K H (mergeP ps more) (mergeK vs mv) := by
  induction hm with
  | nil => intro ps vs h; exact h
  | @cons k p v _ _ r _ ih => intro ps vs h; exact ih (h.put k r)
theorem RepKV.zip {ks : List Key} : ∀ {ps : List PV} {vs : List V}, Reps K H ps vs → RepKV K H (ks.zip ps) (ks.zip vs) := by
  induction ks with
  | nil => intro ps vs _; exact .nil
  | cons k ks ih =>
    intro ps vs h
    cases h with
    | nil => exact .nil
    | cons r t => exact .cons r (ih t)
end
theorem putP_new {kvs : List (Key × PV)} {k : Key} (v : PV) (h : k ∉ kvs.map (·.1)) : putP kvs k v = kvs ++ [(k, v)] := by
  unfold putP
  rw [if_neg]
  intro h2
  obtain ⟨kv, h3, h4⟩ := List.any_eq_true.mp h2
  exact h (List.mem_map.mpr ⟨kv, h3, of_decide_eq_true h4⟩)
theorem mergeP_new : ∀ {more kvs : List (Key × PV)}, ((kvs ++ more).map (·.1)).Nodup → mergeP kvs more = kvs ++ more
  | [], kvs, _ => by show kvs = _; rw [List.append_nil]
  | (k, v) :: r, kvs, h => by
    have h1 : k ∉ kvs.map (·.1) := fun hk => by
      rw [List.map_append] at h
      exact (List.nodup_append.mp h).2.2 _ hk _ (by simp) rfl
    show mergeP (putP kvs k v) r = _
    rw [putP_new v h1, mergeP_new (by rw [List.append_assoc]; exact h), List.append_assoc]; rfl
end PL

set_option Elab.async false
set_option linter.all false
set_option maxRecDepth 100000
set_option maxHeartbeats 2000000
/-! PL14: dicts with whole numbers and texts as keys, in the data layer. -/
namespace PL
open PySem PySem.Spec L2
section
variable {X : Cx} {H0 : Hp} {pos : Pos} {K : Kf}
/-- a dict that is read -/
def rdD (M : PHp) (a : Addr) (kvs : List (Key × PV)) : Prop := M a = some (.dK kvs) ∨ ∃ o vs, M a = some (.rK o vs kvs)
theorem rdD.to {H : Hp} {M : PHp} {a : Addr} {kvs : List (Key × PV)} (h : rdD M a kvs) (m : RelM K H M) : ∃ vs, Rd H a (.dK vs) ∧ RepKV K H kvs vs := by
  rcases h with h | ⟨o, vs, h⟩
  · obtain ⟨vs, e, r⟩ := m a _ h
    exact ⟨vs, .inl e, r⟩
  · obtain ⟨e, r⟩ := m a _ h
    exact ⟨vs, .inr ⟨o, e⟩, r⟩
theorem new_dK {H : Hp} {M : PHp} {p : Addr} {l : List (Key × PV)} {vs : List (Key × V)} {Q : VK} {Qp : PVK} (m : RelM K H M) (hp : H p = none) (r : RepKV K H l vs)
    (u : ∀ p, M p = none → Qp (.ref p) (updM M p (.dK l))) (k : Kont K H Q Qp) : Q (.ref p) (upd H p (.dK vs)) := by
  have t : Tk K H (upd H p (.dK vs)) := .new hp
  exact k _ _ _ _ t (m.put (m := .dK l) t ⟨vs, upd_same, r.mono t⟩) (.ref p) (u p (m.fresh hp))
theorem Tk_dK {H : Hp} {M : PHp} {a : Addr} {l l' : List (Key × PV)} {vs vs' : List (Key × V)} (m : RelM K H M) (e : H a = some (.dK vs)) (r : RepKV K H l' vs') : Tk K H (upd H a (.dK vs')) ∧ RelM K (upd H a (.dK vs')) (updM M a (.dK l')) := by
  have t : Tk K H (upd H a (.dK vs')) := .dK e
  exact ⟨t, m.put (m := .dK l') t ⟨vs', upd_same, r.mono t⟩⟩
/-! {} -/
@[reducible] def tDNew : TEp := fun _ M Q => ∀ p, M p = none → Q (.ref p) (updM M p (.dK []))
theorem pdnew : PEp X H0 (.Dict [] [] pos) tDNew := peW pe_dnewK fun σ H Q ⟨σp, M, Qp, t, s, m, u, k⟩ p hp => new_dK m hp .nil u k
/-! d[k] -/
variable {o i e f value : Expr} {td ti te tv tx : TEp} {ta : TAp}
@[reducible] def tDGet (td ti : TEp) : TEp := fun σ M Q => td σ M fun x M1 => ti σ M1 fun y M2 => match x with | .ref a => ∃ kvs k p, rdD M2 a kvs ∧ y = kP k ∧ valP kvs k = some p ∧ Q p M2 | _ => False
theorem pdget (hu : X.A.units + 1 < cLine) (ho : PEp X H0 o td) (hi : PEp X H0 i ti) (hs : NoSl i := by exact fun _ _ => rfl) : PEp X H0 (.Subscript o i pos) (tDGet td ti) :=
  peW (pe_dget hu ho hi hs) fun σ H Q ⟨σp, M, Qp, t, s, m, u, k⟩ => ⟨σp, M, _, t, s, m, u, fun x H1 px M1 t1 m1 rx u1 => ⟨σp, M1, _, t.trans t1, s.mono t1, m1, u1, fun y H2 py M2 t2 m2 ry u2 => by
    cases rx with
    | ref a =>
      obtain ⟨kvs, kk, p, hd, rfl, hv, q⟩ := u2
      obtain ⟨vs, e1, r⟩ := hd.to m2
      rcases r.val kk with ⟨n1, _⟩ | ⟨p', v, n1, n2, rv⟩
      · rw [n1] at hv; cases hv
      · rw [n1] at hv; cases hv
        exact ⟨a, v, rfl, .inl ⟨vs, kk, e1, kP_inv ry, n2.symm⟩, k _ _ _ _ (t1.trans t2) m2 rv q⟩
    | _ => exact u2.elim⟩⟩
/-! d.get(k, x) -/
@[reducible] def tDGet2 (td ti tx : TEp) : TEp := fun σ M Q => td σ M fun x M1 => match x with
  | .ref a => (∃ kvs, rdD M1 a kvs) ∧ ti σ M1 fun y M2 => tx σ M2 fun z M3 => ∃ kvs k, rdD M3 a kvs ∧ y = kP k ∧ Q ((valP kvs k).getD z) M3
  | _ => False
theorem pdget2 {apos cpos : Pos} (hu : X.A.units + 1 < cLine) (ho : PEp X H0 o td) (he : PEp X H0 e te) (hf : PEp X H0 f tx) (m : M2 X o "get" apos e f cpos := by exact ⟨rfl, rfl, rfl, rfl⟩) : PEp X H0 (.Call (.Attribute o "get" apos) [e, f] [] cpos) (tDGet2 td te tx) :=
  peW (pe_dget2 hu ho he hf m) fun σ H Q ⟨σp, M, Qp, t, s, m, u, k⟩ => ⟨σp, M, _, t, s, m, u, fun x H1 px M1 t1 m1 rx u1 => by
    cases rx with
    | ref a =>
      obtain ⟨⟨kv0, hd0⟩, u1⟩ := u1
      obtain ⟨vs0, e0, _⟩ := hd0.to m1
      refine ⟨a, rfl, .inl ⟨vs0, e0⟩, σp, M1, _, t.trans t1, s.mono t1, m1, u1, fun y H2 py M2 t2 m2 ry u2 => ⟨σp, M2, _, (t.trans t1).trans t2, (s.mono t1).mono t2, m2, u2, fun z H3 pz M3 t3 m3 rz u3 => ?_⟩⟩
      obtain ⟨kvs, kk, hd, rfl, q⟩ := u3
      obtain ⟨vs, e1, r⟩ := hd.to m3
      refine ⟨valV vs kk, .inl ⟨vs, kk, e1, kP_inv ry, rfl⟩, ?_⟩
      rcases r.val kk with ⟨n1, n2⟩ | ⟨p', v, n1, n2, rv⟩
      · rw [n1] at q; rw [n2]
        exact k _ _ _ _ ((t1.trans t2).trans t3) m3 rz q
      · rw [n1] at q; rw [n2]
        exact k _ _ _ _ ((t1.trans t2).trans t3) m3 rv q
    | _ => exact u1.elim⟩
/-! d[k] = v -/
@[reducible] def sDPut (td ti tv : TEp) : TSp := fun D σ M => tv σ M fun v M1 => td σ M1 fun x M2 => ti σ M2 fun y M3 => match x with
  | .ref a => ∃ kvs k, M3 a = some (.dK kvs) ∧ y = kP k ∧ kvs.length < sizeLine ∧ D.nx σ (updM M3 a (.dK (putP kvs k v)))
  | _ => False
theorem psdput {pos' : Pos} (hu : X.A.units + 1 < cLine) (ho : PEp X H0 o td) (hi : PEp X H0 i ti) (hv : PEp X H0 value tv) (hs : swapsWith value (some (.Subscript o i pos')) pos.line X.env = pure false := by rfl) :
    PSp' X H0 (.Assign [.Subscript o i pos'] value pos) (sDPut td ti tv) :=
  psW (ps_dput hu ho hi hv hs) fun D σ H ⟨σp, M, Dp, t, s, m, u, k⟩ => ⟨σp, M, _, t, s, m, u, fun v H1 pv M1 t1 m1 rv u1 => ⟨σp, M1, _, t.trans t1, s.mono t1, m1, u1, fun x H2 px M2 t2 m2 rx u2 => ⟨σp, M2, _, (t.trans t1).trans t2, (s.mono t1).mono t2, m2, u2, fun y H3 py M3 t3 m3 ry u3 => by
    cases rx with
    | ref a =>
      obtain ⟨kvs, kk, hd, rfl, few, q⟩ := u3
      obtain ⟨vs, e1, r⟩ := m3 _ _ hd
      obtain ⟨t4, m4⟩ := Tk_dK (l := kvs) m3 e1 (r.put kk ((rv.mono t2).mono t3))
      exact ⟨a, _, rfl, .inl ⟨vs, kk, e1, kP_inv ry, by rw [← r.len]; exact few, rfl⟩, k.nx _ _ _ _ (((t1.trans t2).trans t3).trans t4) ((((s.mono t1).mono t2).mono t3).mono t4) m4 q⟩
    | _ => exact u3.elim⟩⟩⟩
/-! list(d) -/
def listDP : RCp := fun xs M Q => match xs with
  | [.ref a] => ∃ kvs, M a = some (.dK kvs) ∧ ∀ p, M p = none → Q (.ref p) (updM M p (.lst (kvs.map fun kv => kP kv.1)))
  | _ => False
theorem RepKV.keys {H : Hp} {kvs : List (Key × PV)} {vs : List (Key × V)} (h : RepKV K H kvs vs) : Reps K H (kvs.map fun kv => kP kv.1) (vs.map fun kv => kV kv.1) := by
  induction h with
  | nil => exact .nil
  | cons _ _ ih => exact .cons (kP_rep _) ih
theorem cListD (hc : X.calm = true) : CallP X (.type "list") listDP := by
  refine ⟨_, call_list_dK hc, fun xs H ps M Q Qp rs m u k => ?_⟩
  cases rs with
  | nil => exact u.elim
  | cons r rr => cases rr with
    | cons _ _ => cases r <;> exact u.elim
    | nil => cases r with
      | ref a =>
        obtain ⟨kvs, hd, q⟩ := u
        obtain ⟨vs, e, rk⟩ := m _ _ hd
        exact ⟨a, vs, rfl, e, fun p hp => new_lst m hp rk.keys q k⟩
      | _ => exact u.elim
/-! a dict that stands still -/
@[reducible] def tStill (te : TEp) : TEp := fun σ M Q => ∃ d kvs, M d = some (.dK kvs) ∧ ∀ o vs, te σ (updM M d (.rK o vs kvs)) fun x M1 => M1 d = some (.rK o vs kvs) ∧ Q x (updM M1 d (.dK kvs))
theorem no_tupF {H : Hp} {p : Addr} {o : Obj} {vs : List (Key × V)} (h : H p = some (.frz o (.dK vs))) : ∀ xs, ¬ Rd H p (.tup xs) := fun xs e => by
  rcases e with e | ⟨u, e⟩
  · rw [h] at e; cases e
  · rw [h] at e; cases e
theorem pstill (he : PEp X H0 e te) : PEp X H0 e (tStill te) :=
  peW (pe_still he) fun σ H Q ⟨σp, M, Qp, t, s, m, ⟨d, kvs, hd, u⟩, k⟩ => by
    obtain ⟨vs, e1, r⟩ := m _ _ hd
    refine ⟨d, vs, e1, fun ob => ?_⟩
    have t1 : Tk X.K H (upd H d (.frz ob (.dK vs))) := .dK e1
    have m1 : RelM X.K (upd H d (.frz ob (.dK vs))) (updM M d (.rK ob vs kvs)) := m.put (m := .rK ob vs kvs) t1 ⟨upd_same, r.mono t1⟩
    refine ⟨σp, _, _, t.trans t1, s.mono t1, m1, u ob vs, fun x H2 px M2 t2 m2 rx ⟨h2, q⟩ => ?_⟩
    obtain ⟨e2, r2⟩ := m2 _ _ h2
    have t3 : Tk X.K H2 (upd H2 d (.dK vs)) := .upd (no_tupF e2)
    exact ⟨ob, vs, e2, k _ _ _ _ ((t1.trans t2).trans t3) (m2.put (m := .dK kvs) t3 ⟨vs, upd_same, r2.mono t3⟩) (rx.mono t3) q⟩
theorem ps_still {st : Stmt} {t : TS} (h : PS X st t) : PS X st (fun D σ H => ∃ d kvs, H d = some (.dK kvs) ∧ ∀ o, t { nx := fun σ' H' => ∃ o' kvs', H' d = some (.frz o' (.dK kvs')) ∧ D.nx σ' (upd H' d (.dK kvs')), rt := fun _ _ => False } σ (upd H d (.frz o (.dK kvs)))) := by
  refine ⟨fun pins s σ H D I want => ?_⟩
  obtain ⟨d, kvs, hd, want⟩ := want
  have ok := I.hok d _ hd
  obtain ⟨few, off, vs, rel, dd⟩ := (show ObjOk X.prog X.w H s.heap d (.dK kvs) from ok)
  obtain ⟨ob, es, ep, e1, e2⟩ := id dd
  have fr : ∀ o w, X.H_0 d ≠ some (.frz o w) := fun o w z => by
    have := I.base.frzs d o w z
    rw [hd] at this; cases this
  have I1 := swap_inv (v := .frz ob (.dK kvs)) I hd (fun _ z => by cases z) (fun _ z => by cases z) (fun _ z => by cases z) fr ⟨e1, few, off, vs, rel, dd⟩
  refine thn (h.run pins s σ _ _ I1 (want ob)) fun f s1 sp => ?_
  cases f with
  | next =>
    obtain ⟨σ', H1, I2, o', kvs', h1, q⟩ := sp
    obtain ⟨_, ok1⟩ := (show ObjOk X.prog X.w H1 s1.heap d (.frz o' (.dK kvs')) from I2.hok d _ h1)
    exact ⟨σ', _, swap_inv (v := .dK kvs') I2 h1 (fun _ z => by cases z) (fun _ z => by cases z) (fun _ z => by cases z) fr ok1, q⟩
  | brk => obtain ⟨_, _, _, q⟩ := sp; exact q.elim
  | cont => obtain ⟨_, _, _, q⟩ := sp; exact q.elim
  | ret u => obtain ⟨_, _, _, _, _, q⟩ := sp; exact q.elim
@[reducible] def tStillS (ts : TSp) : TSp := fun D σ M => ∃ d kvs, M d = some (.dK kvs) ∧ ∀ o vs, ts { nx := fun σ' M' => M' d = some (.rK o vs kvs) ∧ D.nx σ' (updM M' d (.dK kvs)), rt := fun _ _ => False } σ (updM M d (.rK o vs kvs))
theorem psstill {st : Stmt} {ts : TSp} (h : PSp' X H0 st ts) : PSp' X H0 st (tStillS ts) :=
  psW (ps_still h) fun D σ H ⟨σp, M, Dp, t, s, m, ⟨d, kvs, hd, u⟩, k⟩ => by
    obtain ⟨vs, e1, r⟩ := m _ _ hd
    refine ⟨d, vs, e1, fun ob => ?_⟩
    have t1 : Tk X.K H (upd H d (.frz ob (.dK vs))) := .dK e1
    have m1 : RelM X.K (upd H d (.frz ob (.dK vs))) (updM M d (.rK ob vs kvs)) := m.put (m := .rK ob vs kvs) t1 ⟨upd_same, r.mono t1⟩
    refine ⟨σp, _, _, t.trans t1, s.mono t1, m1, u ob vs, ⟨fun σ2 H2 σp2 M2 t2 s2 m2 ⟨h2, q⟩ => ?_, fun _ _ _ _ _ _ _ q => q.elim, fun _ _ _ _ _ _ _ q => q.elim, fun _ _ _ _ _ _ _ q => q.elim⟩⟩
    obtain ⟨e2, r2⟩ := m2 _ _ h2
    have t3 : Tk X.K H2 (upd H2 d (.dK vs)) := .upd (no_tupF e2)
    exact ⟨ob, vs, e2, k.nx _ _ _ _ ((t1.trans t2).trans t3) (s2.mono t3) (m2.put (m := .dK kvs) t3 ⟨vs, upd_same, r2.mono t3⟩) q⟩
theorem u1 {n c : Nat} (h : n + 64 < c) : n + 1 < c := by omega
/-- over the keys of a dict that stands still -/
@[reducible] def iKeysP (td : TEp) : TIp := fun σ M R => td σ M fun x M1 => match x with | .ref a => ∃ o vs kvs, M1 a = some (.rK o vs kvs) ∧ R (kvs.map fun kv => kP kv.1) (fun M => M a = some (.rK o vs kvs)) M1 | _ => False
theorem RepKV.at {H : Hp} {kvs : List (Key × PV)} {vs : List (Key × V)} (h : RepKV K H kvs vs) : ∀ {i : Nat} {k : Key} {v : V}, vs[i]? = some (k, v) → ∃ p, kvs[i]? = some (k, p) := by
  induction h with
  | nil => intro i k v e; simp at e
  | @cons j p w ps ws _ _ ih =>
    intro i k v e
    cases i with
    | zero => simp at e; exact ⟨p, by rw [e.1]; rfl⟩
    | succ i => simp at e; obtain ⟨p, hp⟩ := ih e; exact ⟨p, by simpa using hp⟩
theorem pikeys {tg e : Expr} {td : TEp} (h : PEp X H0 e td) : PIp' X H0 tg e (iKeysP td) :=
  piW (pi_keys h) fun σ H R ⟨σp, M, Rp, t, s, m, u, k⟩ => ⟨σp, M, _, t, s, m, u, fun x H1 px M1 t1 m1 rx u1 => by
    cases rx with
    | ref a =>
      obtain ⟨o, vs, kvs, hd, q⟩ := u1
      obtain ⟨e1, r⟩ := m1 _ _ hd
      have len : (kvs.map fun kv => kP kv.1).length = vs.length := by rw [List.length_map]; exact r.len
      refine ⟨a, o, rfl, .inl ⟨vs, e1, k _ _ _ _ _ t1 m1 ⟨fun i H2 M2 t2 m2 hk hi => ?_, fun i H2 M2 x H3 t2 m2 hk hi y => ?_, fun H2 M2 t2 m2 hk => ?_⟩ q⟩⟩
      · obtain ⟨e2, _⟩ := m2 _ _ hk
        exact ⟨e2, by rw [← len]; exact hi⟩
      · obtain ⟨rfl, kk, v, e3, rfl⟩ := y
        obtain ⟨p, hp⟩ := r.at e3
        exact ⟨kP kk, by rw [List.getElem?_map, hp]; rfl, kP_rep _, Tk.refl _ _, fun _ h => h⟩
      · obtain ⟨e2, _⟩ := m2 _ _ hk
        exact ⟨e2, by rw [len]; exact Nat.le_refl _⟩
    | _ => exact u1.elim⟩
/-! dict(zip(t, u)) -/
def xDz (K : Kf) (t : TA) : TE := fun σ H Q => t σ H fun vs H1 => ∃ (a b : Addr) (ks : List Key) (ys : List V), vs = [.ref a, .ref b] ∧ SqT K H1 a (ks.map kV) ∧ SqT K H1 b ys ∧ ∀ p, H1 p = none → Q (.ref p) (upd H1 p (.dK (mergeK [] (ks.zip ys))))
theorem vals_get : ∀ {xs : List V} {us : List Value} {i : Nat} {x : V}, Vals xs us → xs[i]? = some x → ∃ u, us[i]? = some u ∧ RelV x u
  | _, _, _, _, .nil, e => by simp at e
  | _, _, 0, _, .cons r _, e => by simp at e; subst e; exact ⟨_, rfl, r⟩
  | _, _, i + 1, _, .cons _ t, e => by
    obtain ⟨u, h1, h2⟩ := vals_get (i := i) t (by simpa using e)
    exact ⟨u, by simpa using h1, h2⟩
theorem kv_zip : ∀ {ks : List Key} {ys : List V} {us : List Value}, Vals ys us → KV (ks.zip ys) (ks.zip us)
  | [], _, _, _ => .nil
  | _ :: _, _, _, .nil => .nil
  | k :: ks, _, _, .cons r t => .cons ⟨rfl, r⟩ (kv_zip (ks := ks) t)
open PyProof.Rows in
theorem pe_dictzip {e1 e2 : Expr} {p p2 pos2 : Pos} {t : TA} (hc : X.calm = true) (gd : Gl X "dict") (md : X.mg "dict" = none) (gz : Gl X "zip") (mz : X.mg "zip" = none) (ha : PA X [e1, e2] t)
    (s1 : starEach [e1, e2] X.env = (false, eval e1 X.env) :: starEach [e2] X.env := by rfl) (pl : (backTo pos2 (starEach [e2] X.env)).any (·.1) = false := by rfl)
    (s2 : starEach [.Call (.Name "zip" p2) [e1, e2] [] pos2] X.env = (false, eval (.Call (.Name "zip" p2) [e1, e2] [] pos2) X.env) :: starEach [] X.env := by rfl) :
    PE X (.Call (.Name "dict" p) [.Call (.Name "zip" p2) [e1, e2] [] pos2] [] pos) (xDz X.K t) := by
  refine ⟨fun pins s σ H Q I want => ?_⟩
  refine Call_ (ld_blt I gd md PyProof.Rows.boot_dict (PyProof.Rows.callWith_type1 (PyProof.Rows.args_cons (Call_ (ld_blt I gz mz PyProof.Rows.boot_zip (PyProof.Rows.callWith_type1 (thn (ha.run pos2 pins s σ H _ I want) fun us st ⟨vs, H1, I1, r1, a, b, ks, ys, ev, ta, tb, q⟩ => ?_) s1 pl))) s2) s2))
  subst ev
  obtain ⟨u1, u2, eu, ra, rb⟩ := vals2 r1
  subst eu
  cases ra
  cases rb
  obtain ⟨its, rv, p1, few1⟩ := I1.tuple ta
  obtain ⟨jts, rw', p2', few2⟩ := I1.tuple tb
  obtain ⟨o1, ho1, _⟩ := id p1
  obtain ⟨o2, ho2, _⟩ := id p2'
  refine RZ.call_zipT (show st.heap.IsTuple a its.toArray from p1) (show st.heap.IsTuple b jts.toArray from p2') fun h1 hz hp hto h1a h2a size keep => PyProof.Rows.args_nil ?_
  have klen : ks.length = its.length := by have := rv.length; rwa [List.length_map] at this
  refine PLz.dict_zip (s := { st with heap := h1 }) (knd := mixKind X.prog X.w) (xs := its.toArray) (ys := jts.toArray) (kvs := ks.zip jts) (I1.ok.hd hc) (PySem.W.ktu_apart st.heap.objs.size a b (Heap.lt_size ho1) (Heap.lt_size ho2))
    ⟨hz, hp, ⟨_, _, hto⟩, h1a, h2a, (show st.heap.IsTuple a its.toArray from p1).at fun o e => keep _ o e, (show st.heap.IsTuple b jts.toArray from p2').at fun o e => keep _ o e⟩ ⟨by rw [List.length_zip, klen, List.size_toArray, List.size_toArray], fun i key v ⟨x1, x2⟩ => ?_⟩ ?_ fun h2 tk dd stay => ?_
  · rw [List.getElem?_toArray] at x1 x2
    have hi := (List.getElem?_eq_some_iff.mp x1).1
    have hk : ks[i]? = some (ks[i]'(by omega)) := List.getElem?_eq_getElem _
    refine ⟨ks[i]'(by omega), List.getElem?_zip_eq_some.mpr ⟨hk, x2⟩, kV_is ?_⟩
    have : (ks.map kV)[i]? = some (kV (ks[i]'(by omega))) := by rw [List.getElem?_map, hk]; rfl
    obtain ⟨z, z1, z2⟩ := vals_get rv this
    rw [x1] at z1; cases z1; exact z2
  · have := rw'.length
    rw [List.size_toArray, List.size_toArray]; omega
  · have big := I1.big
    refine ⟨.ref h1.objs.size, _, I1.laid (t' := tk) (a := h1.objs.size) (o := .dK (mergeK [] (ks.zip ys))) (fun b2 o e => stay b2 o (fun hm => ?_) (keep b2 o e)) (by omega) ?_, rfl, q _ (I1.hok.fresh (by omega))⟩
    · have under := Heap.lt_size e
      obtain ⟨c1, c2, c3, c4⟩ : b2 ≠ st.heap.objs.size + 4 ∧ b2 ≠ st.heap.objs.size + 3 ∧ b2 ≠ st.heap.objs.size ∧ b2 ≠ st.heap.objs.size + 1 := ⟨Nat.ne_of_lt (Nat.lt_of_lt_of_le under (Nat.le_add_right _ _)), Nat.ne_of_lt (Nat.lt_of_lt_of_le under (Nat.le_add_right _ _)), Nat.ne_of_lt under, Nat.ne_of_lt (Nat.lt_of_lt_of_le under (Nat.le_add_right _ _))⟩
      simp only [List.mem_cons, List.not_mem_nil, or_false] at hm
      rcases hm with z | z | z | z
      · exact c1 z
      · exact c2 z
      · exact c3 z
      · exact c4 z
    · have lm := length_mergeK (ks.zip ys) []
      have lz : (ks.zip ys).length ≤ ys.length := by rw [List.length_zip]; exact Nat.min_le_right _ _
      exact dk_new (by rw [List.length_nil] at lm; omega) (by
        rw [beq_eq_false_iff_ne]
        have le : st.heap.objs.size ≤ h1.objs.size := by rw [size]; exact Nat.le_add_right _ _
        exact Nat.ne_of_gt (Nat.lt_of_lt_of_le big le)) ((kv_zip rw').merge .nil) dd
@[reducible] def tDz (ta : TAp) : TEp := fun σ M Q => ta σ M fun ps M1 => ∃ (ks : List Key) (ys : List PV), ps = [.tup (ks.map kP), .tup ys] ∧ ∀ p, M1 p = none → Q (.ref p) (updM M1 p (.dK (mergeP [] (ks.zip ys))))
theorem reps_keys {H : Hp} : ∀ {ks : List Key} {vs : List V}, Reps K H (ks.map kP) vs → vs = ks.map kV
  | [], _, .nil => rfl
  | k :: _, _, .cons r t => by rw [kP_inv r, reps_keys t]; rfl
theorem pdictzip {e1 e2 : Expr} {p p2 pos2 : Pos} (hc : X.calm = true) (gd : Gl X "dict") (md : X.mg "dict" = none) (gz : Gl X "zip") (mz : X.mg "zip" = none) (ha : PAp X H0 [e1, e2] ta)
    (s1 : starEach [e1, e2] X.env = (false, eval e1 X.env) :: starEach [e2] X.env := by rfl) (pl : (backTo pos2 (starEach [e2] X.env)).any (·.1) = false := by rfl)
    (s2 : starEach [.Call (.Name "zip" p2) [e1, e2] [] pos2] X.env = (false, eval (.Call (.Name "zip" p2) [e1, e2] [] pos2) X.env) :: starEach [] X.env := by rfl) :
    PEp X H0 (.Call (.Name "dict" p) [.Call (.Name "zip" p2) [e1, e2] [] pos2] [] pos) (tDz ta) :=
  peW (pe_dictzip hc gd md gz mz ha s1 pl s2) fun σ H Q ⟨σp, M, Qp, t, s, m, u, k⟩ => ⟨σp, M, _, t, s, m, u, fun vs H1 ps M1 t1 m1 rs u1 => by
    obtain ⟨ks, ys, rfl, q⟩ := u1
    cases rs with
    | cons r1 rr => cases rr with
      | cons r2 rr2 =>
        cases rr2
        cases r1 with
        | tup ha1 ra => cases r2 with
          | tup hb1 rb =>
            have := reps_keys ra
            subst this
            exact ⟨_, _, ks, _, rfl, ha1.t, hb1.t, fun p hp => new_dK m1 hp (RepKV.merge (.zip rb) .nil) q fun v H2 p M2 t2 => k v H2 p M2 (t1.trans t2)⟩⟩
end
end PL

set_option Elab.async false
set_option linter.all false
set_option maxRecDepth 100000
set_option maxHeartbeats 4000000
/-! PL15: what is plain data is equal exactly if it is the same. -/
namespace PL
open PySem L2
section
variable {K : Kf}
/-- numbers, texts, tuples of them -/
inductive Dat : Nat → PV → Prop
  | int {n} (i) : Dat (n + 1) (.int i)
  | str {n} (x) : Dat (n + 1) (.str x)
  | tup {n l} : (∀ x ∈ l, Dat n x) → Dat (n + 1) (.tup l)
theorem Dat.dp {M : PHp} : ∀ {n : Nat} {x : PV}, Dat n x → DpP K M x (toD x)
  | _, _, .int _ => .int _
  | _, _, .str _ => .str _
  | n + 1, .tup l, .tup h => by
    refine .tup ?_
    have : ∀ l : List PV, (∀ x ∈ l, Dat n x) → DpsP K M l (toDs l) := by
      intro l
      induction l with
      | nil => intro _; exact .nil
      | cons x r ih => intro h; exact .cons (Dat.dp (h x List.mem_cons_self)) (ih fun y hy => h y (List.mem_cons_of_mem _ hy))
    exact this l h
theorem Dat.dps {M : PHp} {n : Nat} : ∀ {l : List PV}, (∀ x ∈ l, Dat n x) → DpsP K M l (toDs l)
  | [], _ => .nil
  | x :: r, h => .cons (Dat.dp (h x List.mem_cons_self)) (Dat.dps fun y hy => h y (List.mem_cons_of_mem _ hy))
theorem plains {n : Nat} (go : ∀ x, Dat n x → (toD x).plain = true ∧ (toD x).depth ≤ n) : ∀ {l : List PV}, (∀ x ∈ l, Dat n x) → PyData.plainAll (toDs l) = true ∧ PyData.depthAll (toDs l) ≤ n
  | [], _ => ⟨rfl, Nat.zero_le _⟩
  | x :: r, h => by
    obtain ⟨a1, a2⟩ := go x (h x List.mem_cons_self)
    obtain ⟨b1, b2⟩ := plains go fun y hy => h y (List.mem_cons_of_mem _ hy)
    refine ⟨by show ((toD x).plain && PyData.plainAll (toDs r)) = true; rw [a1, b1]; rfl, ?_⟩
    show max (toD x).depth (PyData.depthAll (toDs r)) ≤ n
    exact Nat.max_le.mpr ⟨a2, b2⟩
theorem Dat.flat : ∀ {n : Nat} {x : PV}, Dat n x → (toD x).plain = true ∧ (toD x).depth ≤ n
  | n + 1, _, .int _ => ⟨rfl, by show 0 ≤ _; omega⟩
  | n + 1, _, .str _ => ⟨rfl, by show 0 ≤ _; omega⟩
  | n + 1, .tup l, .tup h => by
    obtain ⟨h1, h2⟩ := plains (fun x hx => Dat.flat hx) h
    exact ⟨h1, by show PyData.depthAll (toDs l) + 1 ≤ n + 1; omega⟩
theorem Dat.flats {n : Nat} {l : List PV} (h : ∀ x ∈ l, Dat n x) : (PyData.list (toDs l)).plain = true ∧ (PyData.list (toDs l)).depth ≤ n + 1 := by
  obtain ⟨h1, h2⟩ := plains (fun x hx => Dat.flat hx) h
  exact ⟨h1, by show PyData.depthAll (toDs l) + 1 ≤ n + 1; omega⟩
theorem beq_iff {α : Type} [DecidableEq α] (a b : α) : ((a == b) = true) ↔ a = b := by rw [beq_iff_eq]
theorem eqvs {n : Nat} (go : ∀ x y, Dat n x → (PyData.eqv (toD x) (toD y) = true ↔ x = y) ∨ ¬ ∃ m, Dat m y) : ∀ {l r : List PV}, (∀ x ∈ l, Dat n x) → (∀ x ∈ r, ∃ m, Dat m x) → (PyData.eqvAll (toDs l) (toDs r) = true ↔ l = r)
  | [], [], _, _ => ⟨fun _ => rfl, fun _ => rfl⟩
  | [], y :: r, _, _ => ⟨fun h => (by cases h), fun h => (by cases h)⟩
  | x :: l, [], _, _ => ⟨fun h => (by cases h), fun h => (by cases h)⟩
  | x :: l, y :: r, h1, h2 => by
    have a := (go x y (h1 x List.mem_cons_self)).resolve_right fun h => h (h2 y List.mem_cons_self)
    have b := eqvs go (l := l) (r := r) (fun z hz => h1 z (List.mem_cons_of_mem _ hz)) fun z hz => h2 z (List.mem_cons_of_mem _ hz)
    show ((PyData.eqv (toD x) (toD y) && PyData.eqvAll (toDs l) (toDs r)) = true) ↔ _
    rw [Bool.and_eq_true, a, b]
    exact ⟨fun ⟨e1, e2⟩ => by rw [e1, e2], fun e => by cases e; exact ⟨rfl, rfl⟩⟩
theorem Dat.eqv : ∀ {n m : Nat} {x y : PV}, Dat n x → Dat m y → (PyData.eqv (toD x) (toD y) = true ↔ x = y)
  | n + 1, m + 1, _, _, .int i, .int j => by
    show (i == j) = true ↔ _
    rw [beq_iff]; exact ⟨fun e => by rw [e], fun e => by cases e; rfl⟩
  | n + 1, m + 1, _, _, .int i, .str j => ⟨fun h => (by cases h), fun h => (by cases h)⟩
  | n + 1, m + 1, _, .tup r, .int i, .tup _ => ⟨fun h => (by cases h), fun h => (by cases h)⟩
  | n + 1, m + 1, _, _, .str i, .int j => ⟨fun h => (by cases h), fun h => (by cases h)⟩
  | n + 1, m + 1, _, _, .str i, .str j => by
    show (i == j) = true ↔ _
    rw [beq_iff_eq]; exact ⟨fun e => by rw [e], fun e => by cases e; rfl⟩
  | n + 1, m + 1, _, .tup r, .str i, .tup _ => ⟨fun h => (by cases h), fun h => (by cases h)⟩
  | n + 1, m + 1, .tup l, _, .tup _, .int i => ⟨fun h => (by cases h), fun h => (by cases h)⟩
  | n + 1, m + 1, .tup l, _, .tup _, .str i => ⟨fun h => (by cases h), fun h => (by cases h)⟩
  | n + 1, m + 1, .tup l, .tup r, .tup h1, .tup h2 => by
    show PyData.eqvAll (toDs l) (toDs r) = true ↔ _
    rw [eqvs (n := n) (fun x y hx => by
      by_cases q : ∃ m, Dat m y
      · obtain ⟨m, hm⟩ := q
        exact .inl (Dat.eqv hx hm)
      · exact .inr q) h1 fun x hx => ⟨m, h2 x hx⟩]
    exact ⟨fun e => by rw [e], fun e => by cases e; rfl⟩
theorem eqvAll_dat {n m : Nat} {l r : List PV} (h1 : ∀ x ∈ l, Dat n x) (h2 : ∀ x ∈ r, Dat m x) : PyData.eqvAll (toDs l) (toDs r) = true ↔ l = r :=
  eqvs (n := n) (fun x y hx => by
      by_cases q : ∃ m, Dat m y
      · obtain ⟨m, hm⟩ := q
        exact .inl (Dat.eqv hx hm)
      · exact .inr q) h1 fun x hx => ⟨m, h2 x hx⟩
/-- x == y of plain data: the answer is told by a truth value that holds exactly if they are the same -/
theorem eqD_dat {n m : Nat} {x y : PV} {M : PHp} {R : Bool → Prop} (hx : Dat n x) (hy : Dat m y) (hn : n ≤ 64) (hm : m ≤ 64) (q : ∀ b : Bool, (b = true ↔ x = y) → R b) : eqD K x y M R :=
  eqD_fl hx.dp hy.dp ⟨hx.flat.1, Nat.le_trans hx.flat.2 hn⟩ ⟨hy.flat.1, Nat.le_trans hy.flat.2 hm⟩ (q _ (hx.eqv hy))
theorem eqD_same {n : Nat} {x : PV} {M : PHp} {R : Bool → Prop} (hx : Dat n x) (hn : n ≤ 64) (q : R true) : eqD K x x M R :=
  eqD_dat hx hx hn hn fun b hb => by rw [hb.mpr rfl]; exact q
/-- of two lists with plain data -/
theorem eqD_lists {n m : Nat} {a b : Addr} {l r : List PV} {M : PHp} {R : Bool → Prop} (ha : rdL K M a l) (hb : rdL K M b r) (hx : ∀ x ∈ l, Dat n x) (hy : ∀ x ∈ r, Dat m x) (hn : n ≤ 60) (hm : m ≤ 60) (q : ∀ t : Bool, (t = true ↔ l = r) → R t) : eqD K (.ref a) (.ref b) M R :=
  eqD_fl (.lst ha (Dat.dps hx)) (.lst hb (Dat.dps hy)) ⟨(Dat.flats hx).1, Nat.le_trans (Dat.flats hx).2 (by omega)⟩ ⟨(Dat.flats hy).1, Nat.le_trans (Dat.flats hy).2 (by omega)⟩ (q _ (eqvAll_dat hx hy))
theorem eqD_lsame {n : Nat} {a b : Addr} {l : List PV} {M : PHp} {R : Bool → Prop} (ha : rdL K M a l) (hb : rdL K M b l) (hx : ∀ x ∈ l, Dat n x) (hn : n ≤ 60) (q : R true) : eqD K (.ref a) (.ref b) M R :=
  eqD_lists ha hb hx hx hn hn fun t ht => by rw [ht.mpr rfl]; exact q
theorem dat_ints {n : Nat} (ns : List Int) : ∀ x ∈ ns.map PV.int, Dat (n + 1) x := fun x hx => by
  obtain ⟨i, _, rfl⟩ := List.mem_map.mp hx; exact .int i
theorem dat_strs {n : Nat} (ns : List Str) : ∀ x ∈ ns.map PV.str, Dat (n + 1) x := fun x hx => by
  obtain ⟨i, _, rfl⟩ := List.mem_map.mp hx; exact .str i
end
end PL

set_option Elab.async false
set_option linter.all false
set_option maxRecDepth 100000
set_option maxHeartbeats 4000000
/-! PL16: a test with a word behind it. -/
namespace PL
open PySem L2
section
variable {X : Cx} {H0 : Hp} {ts us : TSp} {pos : Pos}
/-- if, with a word about what the test has told -/
@[reducible] def tIfC (c : TTp) (t u : TSp) : TSp := fun D σ M => ∃ Mid : Bool → PHp → Prop, c σ M (fun b M1 => ∃ M0, Sub M0 M1 ∧ Mid b M0) ∧ ∀ b M', Mid b M' → br b (t D σ M') (u D σ M')
theorem psifc {c : Expr} {a b : List Stmt} {tc : TTp} (hc : PTp X H0 c tc) (ha : PSsp X H0 a ts) (hb : PSsp X H0 b us) : PSp' X H0 (.If c a b pos) (tIfC tc ts us) :=
  psW (ps_if hc ha hb) fun D σ H ⟨σp, M, Dp, t, s, m, ⟨Mid, u, q⟩, k⟩ => ⟨σp, M, _, t, s, m, u, fun c H1 M1 t1 m1 ⟨M0, sm, z⟩ => br_imp (q c M0 z)
    (fun q => ⟨σp, M0, Dp, t.trans t1, s.mono t1, m1.sub sm, q, k.mono t1⟩) fun q => ⟨σp, M0, Dp, t.trans t1, s.mono t1, m1.sub sm, q, k.mono t1⟩⟩
/-- none, or a thing -/
theorem isn_opt {α : Type} {f : α → PV} (hf : ∀ x, f x ≠ .non) {o : Option α} {M : PHp} {Q : PVK} (h : Q (.bl o.isNone) M) : isNP (match o with | none => .non | some x => f x) .non M Q := by
  cases o with
  | none => exact h
  | some x =>
    have := hf x
    show isNP (f x) .non M Q
    unfold isNP
    cases e : f x with
    | non => exact absurd e this
    | _ => exact h
end
end PL

set_option Elab.async false
set_option linter.all false
set_option maxRecDepth 100000
set_option maxHeartbeats 4000000
/-! PL17: classes of the program's own: attributes, methods, properties, making, instances called. -/
namespace PL
open PySem PySem.Spec L2
section
variable {X : Cx} {H0 : Hp} {pos : Pos} {K : Kf}
/-- where the module's class of that name stands -/
def clsA (K : Kf) (x : Str) : Addr := match PySem.W.nsIn K mainGlobals x with
  | some (some (.ref C)) => C
  | _ => 0
theorem clsA_of {x : Str} {C : Addr} (h : PySem.W.nsIn K mainGlobals x = some (some (.ref C))) : clsA K x = C := by unfold clsA; rw [h]
abbrev FldOk (K : Kf) (C : Addr) (f : Str) : Prop := Cls K C ∧ NoAttr K C f
def putX (f : Str) (v : PV) : List (Str × PV) → List (Str × PV)
  | [] => [(f, v)]
  | (g, x) :: r => if g = f then (g, v) :: r else (g, x) :: putX f v r
theorem RepXD.lk {H : Hp} {fs : List (Str × PV)} {vs : List (Str × V)} (h : RepXD K H fs vs) (f : Str) : (fs.lookup f = none ∧ vs.lookup f = none) ∨ ∃ p v, fs.lookup f = some p ∧ vs.lookup f = some v ∧ Rep K H p v := by
  induction h with
  | nil => exact .inl ⟨rfl, rfl⟩
  | @cons k p v ps vs r _ ih =>
    rw [List.lookup_cons, List.lookup_cons]
    by_cases q : (f == k) = true
    · rw [q]; exact .inr ⟨p, v, rfl, rfl, r⟩
    · rw [Bool.not_eq_true] at q; rw [q]; exact ih
theorem RepXD.put {H : Hp} {fs : List (Str × PV)} {vs : List (Str × V)} {f : Str} {p : PV} {v : V} (r : Rep K H p v) (h : RepXD K H fs vs) : RepXD K H (putX f p fs) (putF f v vs) := by
  induction h with
  | nil => exact .cons r .nil
  | @cons k p' v' ps vs r' t ih =>
    unfold putX putF
    by_cases q : k = f
    · rw [if_pos q, if_pos q]; exact .cons r t
    · rw [if_neg q, if_neg q]; exact .cons r' ih
theorem RepXD.len {H : Hp} {fs : List (Str × PV)} {vs : List (Str × V)} (h : RepXD K H fs vs) : fs.length = vs.length := by
  induction h with
  | nil => rfl
  | cons _ _ ih => exact congrArg (· + 1) ih
theorem lk_hit {f : Str} {v : PV} {fs : List (Str × PV)} : ((f, v) :: fs).lookup f = some v := by rw [List.lookup_cons, beq_self_eq_true]
theorem lk_miss {f g : Str} {v : PV} {fs : List (Str × PV)} {o : Option PV} (n : f ≠ g) (h : fs.lookup f = o) : ((g, v) :: fs).lookup f = o := by
  rw [List.lookup_cons, show (f == g) = false from beq_eq_false_iff_ne.mpr n]; exact h
theorem lk_nil {f : Str} : ([] : List (Str × PV)).lookup f = none := rfl
theorem px_hit {f : Str} {v u : PV} {fs : List (Str × PV)} : (f, v) :: fs = putX f v ((f, u) :: fs) := by unfold putX; rw [if_pos rfl]
theorem px_miss {f g : Str} {v u : PV} {fs fs' : List (Str × PV)} (n : f ≠ g) (h : fs' = putX f v fs) : (g, u) :: fs' = putX f v ((g, u) :: fs) := by
  conv => rhs; unfold putX
  rw [if_neg (Ne.symm n), ← h]
theorem px_nil {f : Str} {v : PV} : [(f, v)] = putX f v [] := rfl
theorem Tk.ins {H : Hp} {p C dx : Addr} {vs : List (Str × V)} {o : HO} (h : H p = some (.ins C dx vs)) : Tk K H (L2.upd H p o) := .upd (no_tup h (fun _ z => nomatch z) (fun _ _ z => nomatch z))
theorem Tk_ins {H : Hp} {M : PHp} {a C dx : Addr} {l' : List (Str × PV)} {vs vs' : List (Str × V)} (m : RelM K H M) (e : H a = some (.ins C dx vs)) (r : RepXD K H l' vs') : Tk K H (upd H a (.ins C dx vs')) ∧ RelM K (upd H a (.ins C dx vs')) (updM M a (.ins C dx l')) :=
  ⟨.ins e, m.put (.ins e) ⟨vs', upd_same, r.mono (.ins e)⟩⟩
/-! ### attributes -/
@[reducible] def tFldP (K : Kf) (te : TEp) (f : Str) : TEp := fun σ M Q => te σ M fun x M1 => match x with
  | .ref a => ∃ C dx fs v, M1 a = some (.ins C dx fs) ∧ FldOk K C f ∧ fs.lookup f = some v ∧ Q v M1
  | _ => False
theorem pfld {e : Expr} {f : Str} {te : TEp} (he : PEp X H0 e te) (hb : attributeBase e f X.env (eval e X.env) = eval e X.env := by rfl) (hK : X.K = K := by rfl) : PEp X H0 (.Attribute e f pos) (tFldP K te f) := by
  subst hK
  exact peW (pe_fld he hb) fun σ H Q ⟨σp, M, Qp, t, s, m, u, k⟩ => ⟨σp, M, _, t, s, m, u, fun x H1 px M1 t1 m1 rx u1 => by
    cases rx with
    | ref a =>
      obtain ⟨C, dx, fs, v, e1, ok, l, q⟩ := u1
      obtain ⟨vs, e2, r⟩ := m1 a _ e1
      rcases r.lk f with ⟨h, _⟩ | ⟨p, w, h1, h2, rv⟩
      · rw [l] at h; cases h
      · rw [l] at h1; cases h1
        exact ⟨a, C, dx, vs, w, rfl, e2, ok.1, ok.2, h2, k _ H1 _ M1 t1 m1 rv q⟩
    | _ => exact u1.elim⟩
@[reducible] def tFldS (K : Kf) (to tv : TEp) (f : Str) : TSp := fun D σ M => tv σ M fun v M1 => to σ M1 fun x M2 => match x with
  | .ref a => ∃ C dx fs fs', M2 a = some (.ins C dx fs) ∧ FldOk K C f ∧ fs.length < 1000 ∧ fs' = putX f v fs ∧ D.nx σ (updM M2 a (.ins C dx fs'))
  | _ => False
theorem psfld {o value : Expr} {f : Str} {to tv : TEp} {pos' : Pos} (ho : PEp X H0 o to) (hv : PEp X H0 value tv) (hs : swapsWith value (some (.Attribute o f pos')) pos.line X.env = pure false := by rfl) (hK : X.K = K := by rfl) :
    PSp' X H0 (.Assign [.Attribute o f pos'] value pos) (tFldS K to tv f) := by
  subst hK
  exact psW (ps_fld ho hv hs) fun D σ H ⟨σp, M, Dp, t, s, m, u, k⟩ => ⟨σp, M, _, t, s, m, u, fun v H1 pv M1 t1 m1 rv u1 => ⟨σp, M1, _, t.trans t1, s.mono t1, m1, u1, fun x H2 px M2 t2 m2 rx u2 => by
    cases rx with
    | ref a =>
      obtain ⟨C, dx, fs, fs', e1, ok, hl, rfl, q⟩ := u2
      obtain ⟨vs, e2, r⟩ := m2 a _ e1
      have r2 : RepXD X.K H2 (putX f pv fs) (putF f v vs) := r.put (rv.mono t2)
      obtain ⟨tk, rm⟩ := Tk_ins m2 e2 r2
      exact ⟨a, C, dx, vs, rfl, e2, ok.1, ok.2, by rw [← r.len]; exact hl, k.nx _ _ _ _ ((t1.trans t2).trans tk) (s.mono ((t1.trans t2).trans tk)) rm q⟩
    | _ => exact u2.elim⟩⟩
/-! ### methods -/
structure CalleeM (P : Program) (w : World) (K : Kf) (mg : Str → Option Value) (base : Heap) (k : Nat) (C : Addr) (m : Str) (ps : List Str) (psp : PSpec) : Prop where
  ex : ∃ f fd, FnOk P w K mg base CX0 k f fd ps (concF K psp) ∧ Cls K C ∧ Meth K C m f ∧ Binds K fd ps []
@[reducible] def tMethP (C : Addr) (m : Str) (psp : PSpec) (to : TEp) (ta : TAp) : TEp := fun σ M Q => to σ M fun x M1 => match x with
  | .ref a => (∃ dx fs, M1 a = some (.ins C dx fs) ∧ fs.lookup m = none) ∧ ta σ M1 fun ps M2 => psp (.ref a :: ps) M2 Q fun _ _ _ => False
  | _ => False
theorem meth_conc {C : Addr} {m : Str} {psp : PSpec} {to : TEp} {ta : TAp} {σ : L2.St} {H : Hp} {Q : VK} (h : concE K H0 (tMethP C m psp to ta) σ H Q) : tMeth C m (concF K psp) [] E0 (concE K H0 to) (concA K H0 ta) σ H Q := by
  obtain ⟨σp, M, Qp, t, s, m, u, k⟩ := h
  refine ⟨σp, M, _, t, s, m, u, fun x H1 px M1 t1 m1 rx u1 => ?_⟩
  cases rx with
  | ref a =>
    obtain ⟨⟨dx, fs, e1, l⟩, u1⟩ := u1
    obtain ⟨vs, e2, r⟩ := m1 a _ e1
    rename_i m'
    have hl : vs.lookup m' = none := by
      rcases r.lk m' with ⟨_, h⟩ | ⟨p, w, h1, _⟩
      · exact h
      · rw [l] at h1; cases h1
    refine ⟨a, dx, vs, rfl, e2, hl, σp, M1, _, t.trans t1, s.mono t1, m1, u1, fun ws H2 ps M2 t2 m2 rs u2 => ?_⟩
    show concF K psp (V.ref a :: (ws ++ [])) H2 Q E0
    rw [List.append_nil]
    exact ⟨.ref a :: ps, M2, Qp, _, .cons (.ref a) rs, m2, u2, fun v H3 p M3 t3 => k v H3 p M3 ((t1.trans t2).trans t3), fun _ _ _ _ _ _ z => z⟩
  | _ => exact u1.elim
theorem pmeth {k : Nat} {C : Addr} {m : Str} {ps : List Str} {psp : PSpec} {o e : Expr} {es : List Expr} {to : TEp} {ta : TAp} {apos : Pos} {pl : Sem Bool} (Cm : CalleeM X.prog X.w X.K X.mg X.base k C m ps psp) (hr : Room k X.A) (ho : PEp X H0 o to) (ha : PAp X H0 (e :: es) ta)
    (hst : starEach (e :: es) X.env = (false, eval e X.env) :: starEach es X.env := by rfl) (hpl : (backTo pos (starEach es X.env)).any (·.1) = false := by rfl)
    (ht : eval (.Call (.Attribute o m apos) (e :: es) [] pos) X.env = (do
      let ov ← eval o X.env
      standAt apos.atName
      let (f, first) ← holding [ov] (getMethod ov m pl)
      callWith pos f first (backTo pos (starEach (e :: es) X.env)) (backToKw pos (keywordEach [] X.env))) := by rfl) : PEp X H0 (.Call (.Attribute o m apos) (e :: es) [] pos) (tMethP C m psp to ta) := by
  obtain ⟨f, fd, F, c, hm, hb⟩ := Cm.ex
  exact peW (pe_meth ho c hm F hr hb .nil pass0 ha hst hpl ht) fun σ H Q h => meth_conc h
theorem pmeth0 {k : Nat} {C : Addr} {m : Str} {ps : List Str} {psp : PSpec} {o : Expr} {to : TEp} {apos : Pos} {pl : Sem Bool} (Cm : CalleeM X.prog X.w X.K X.mg X.base k C m ps psp) (hr : Room k X.A) (ho : PEp X H0 o to)
    (ht : eval (.Call (.Attribute o m apos) [] [] pos) X.env = (do
      let ov ← eval o X.env
      standAt apos.atName
      let (f, first) ← holding [ov] (getMethod ov m pl)
      callWith pos f first (backTo pos (starEach [] X.env)) (backToKw pos (keywordEach [] X.env))) := by rfl) : PEp X H0 (.Call (.Attribute o m apos) [] [] pos) (tMethP C m psp to tNil) := by
  obtain ⟨f, fd, F, c, hm, hb⟩ := Cm.ex
  refine peW (pe_meth0 ho c hm F hr hb .nil pass0 ht) fun σ H Q ⟨σp, M, Qp, t, s, m, u, k⟩ => ?_
  refine ⟨σp, M, _, t, s, m, u, fun x H1 px M1 t1 m1 rx u1 => ?_⟩
  cases rx with
  | ref a =>
    obtain ⟨⟨dx, fs, e1, l⟩, u1⟩ := u1
    obtain ⟨vs, e2, r⟩ := m1 a _ e1
    rename_i m' _
    have hl : vs.lookup m' = none := by
      rcases r.lk m' with ⟨_, h⟩ | ⟨p, w, h1, _⟩
      · exact h
      · rw [l] at h1; cases h1
    exact ⟨a, dx, vs, rfl, e2, hl, [.ref a], M1, Qp, _, .cons (.ref a) .nil, m1, u1, fun v H3 p M3 t3 => k v H3 p M3 (t1.trans t3), fun _ _ _ _ _ _ z => z⟩
  | _ => exact u1.elim
/-! ### properties -/
structure CalleeP (P : Program) (w : World) (K : Kf) (mg : Str → Option Value) (base : Heap) (k : Nat) (C : Addr) (m : Str) (ps : List Str) (psp : PSpec) : Prop where
  ex : ∃ p f fd, FnOk P w K mg base CX0 k f fd ps (concF K psp) ∧ Cls K C ∧ PropOf K C m p f ∧ Binds K fd ps []
@[reducible] def tPropP (C : Addr) (psp : PSpec) (to : TEp) : TEp := fun σ M Q => to σ M fun x M1 => match x with
  | .ref a => (∃ dx fs, M1 a = some (.ins C dx fs)) ∧ psp [.ref a] M1 Q fun _ _ _ => False
  | _ => False
theorem pprop {k : Nat} {C : Addr} {f : Str} {ps : List Str} {psp : PSpec} {e : Expr} {te : TEp} (Cm : CalleeP X.prog X.w X.K X.mg X.base k C f ps psp) (hr : Room (k + 1) X.A) (he : PEp X H0 e te)
    (hab : attributeBase e f X.env (eval e X.env) = eval e X.env := by rfl) : PEp X H0 (.Attribute e f pos) (tPropP C psp te) := by
  obtain ⟨p, g, fd, F, c, hp, hb⟩ := Cm.ex
  refine peW (pe_prop (E := E0) he c hp F hr hb .nil (fun _ _ _ _ _ _ _ h => h.elim) hab) fun σ H Q ⟨σp, M, Qp, t, s, m, u, k⟩ => ?_
  refine ⟨σp, M, _, t, s, m, u, fun x H1 px M1 t1 m1 rx u1 => ?_⟩
  cases rx with
  | ref a =>
    obtain ⟨⟨dx, fs, e1⟩, u1⟩ := u1
    obtain ⟨vs, e2, r⟩ := m1 a _ e1
    exact ⟨a, dx, vs, rfl, e2, [.ref a], M1, Qp, _, .cons (.ref a) .nil, m1, u1, fun v H3 p M3 t3 => k v H3 p M3 (t1.trans t3), fun _ _ _ _ _ _ z => z⟩
  | _ => exact u1.elim
/-! ### making -/
structure CalleeK (P : Program) (w : World) (K : Kf) (mg : Str → Option Value) (base : Heap) (k : Nat) (x : Str) (ps : List Str) (psp : PSpec) : Prop where
  ex : ∃ f fd, FnOk P w K mg base CX0 k f fd ps (concF K psp) ∧ mg x = some (.ref (clsA K x)) ∧ Mk K (clsA K x) f ∧ Binds K fd ps []
@[reducible] def tMakeP (C : Addr) (psp : PSpec) (ta : TAp) : TEp := fun σ M Q => ta σ M fun ps M1 => ∀ a dx, M1 a = none → psp (.ref a :: ps) (updM M1 a (.ins C dx [])) (fun v M2 => v = .non ∧ Q (.ref a) M2) fun _ _ _ => False
theorem make_conc {C : Addr} {psp : PSpec} {ta : TAp} {σ : L2.St} {H : Hp} {Q : VK} (h : concE K H0 (tMakeP C psp ta) σ H Q) : tMake C (concF K psp) [] E0 (concA K H0 ta) σ H Q := by
  obtain ⟨σp, M, Qp, t, s, m, u, k⟩ := h
  refine ⟨σp, M, _, t, s, m, u, fun vs H1 ps M1 t1 m1 rs u1 => ?_⟩
  intro a dx ha hdx ne
  show concF K psp (V.ref a :: (vs ++ [])) _ _ E0
  rw [List.append_nil]
  have tk1 : Tk K H1 (upd H1 dx (.own a)) := .new hdx
  have hn : (upd H1 dx (.own a)) a = none := by rw [upd_ne (Ne.symm ne)]; exact ha
  have tk2 : Tk K (upd H1 dx (.own a)) (upd (upd H1 dx (.own a)) a (.ins C dx [])) := .new hn
  have m2 : RelM K (upd H1 dx (.own a)) M1 := m1.new hdx
  refine ⟨.ref a :: ps, updM M1 a (.ins C dx []), _, _, .cons (.ref a) (rs.mono (tk1.trans tk2)), m2.put tk2 ⟨[], upd_same, .nil⟩, u1 a dx (m1.fresh ha), fun v H3 p M3 t3 m3 r3 q => ?_, fun _ _ _ _ _ _ z => z⟩
  obtain ⟨q1, q2⟩ := q
  subst q1
  cases r3
  exact ⟨rfl, k _ H3 _ M3 ((t1.trans (tk1.trans tk2)).trans t3) m3 (.ref a) q2⟩
theorem pmake {k : Nat} {x : Str} {ps : List Str} {psp : PSpec} {p : Pos} {e : Expr} {es : List Expr} {ta : TAp} (Cm : CalleeK X.prog X.w X.K X.mg X.base k x ps psp) (hr : Room (k + 1) X.A) (ha : PAp X H0 (e :: es) ta) (hg : Gl X x := by rfl) (hd : (x == ("__debug__" : Str)) = false := by decide)
    (he : starEach (e :: es) X.env = (false, eval e X.env) :: starEach es X.env := by rfl) (hpl : (backTo pos (starEach es X.env)).any (·.1) = false := by rfl) (hK : X.K = K := by rfl) : PEp X H0 (.Call (.Name x p) (e :: es) [] pos) (tMakeP (clsA K x) psp ta) := by
  subst hK
  obtain ⟨f, fd, F, hm, mk, hb⟩ := Cm.ex
  exact peW (pe_make mk F hr hg hm hb .nil pass0 ha hd he hpl) fun σ H Q h => make_conc h
/-! ### instances called -/
structure CalleeO (P : Program) (w : World) (K : Kf) (mg : Str → Option Value) (base : Heap) (k : Nat) (C : Addr) (ps : List Str) (psp : PSpec) : Prop where
  ex : ∃ f fd, FnOk P w K mg base CX0 k f fd ps (concF K psp) ∧ StX.CallO K C f ∧ Binds K fd ps []
@[reducible] def tCallOP (C : Addr) (psp : PSpec) (to : TEp) (ta : TAp) : TEp := fun σ M Q => to σ M fun x M1 => match x with
  | .ref a => ta σ M1 fun ps M2 => (∃ dx fs, M2 a = some (.ins C dx fs)) ∧ psp (.ref a :: ps) M2 Q fun _ _ _ => False
  | _ => False
theorem pcallo {k : Nat} {C : Addr} {ps : List Str} {psp : PSpec} {fe e : Expr} {es : List Expr} {tf : TEp} {ta : TAp} (Cm : CalleeO X.prog X.w X.K X.mg X.base k C ps psp) (hr : Room k X.A) (hf : PEp X H0 fe tf) (ha : PAp X H0 (e :: es) ta)
    (ht : eval (.Call fe (e :: es) [] pos) X.env = (do callWith pos (← eval fe X.env) [] (backTo pos (starEach (e :: es) X.env)) (backToKw pos (keywordEach [] X.env))) := by rfl)
    (he : starEach (e :: es) X.env = (false, eval e X.env) :: starEach es X.env := by rfl) (hpl : (backTo pos (starEach es X.env)).any (·.1) = false := by rfl) : PEp X H0 (.Call fe (e :: es) [] pos) (tCallOP C psp tf ta) := by
  obtain ⟨f, fd, F, c, hb⟩ := Cm.ex
  refine peW (StX.pe_callO hf c (F.raw hb .nil) hr pass0 ha ht he hpl) fun σ H Q ⟨σp, M, Qp, t, s, m, u, k⟩ => ?_
  refine ⟨σp, M, _, t, s, m, u, fun x H1 px M1 t1 m1 rx u1 => ?_⟩
  cases rx with
  | ref a =>
    refine ⟨a, rfl, σp, M1, _, t.trans t1, s.mono t1, m1, u1, fun ws H2 ps M2 t2 m2 rs u2 => ?_⟩
    obtain ⟨⟨dx, fs, e1⟩, u2⟩ := u2
    obtain ⟨vs, e2, r⟩ := m2 a _ e1
    refine ⟨.inr ⟨dx, vs, e2⟩, ?_⟩
    show concF X.K psp ((V.ref a :: ws) ++ []) H2 Q E0
    rw [List.append_nil]
    exact ⟨.ref a :: ps, M2, Qp, _, .cons (.ref a) rs, m2, u2, fun v H3 p M3 t3 => k v H3 p M3 ((t1.trans t2).trans t3), fun _ _ _ _ _ _ z => z⟩
  | _ => exact u1.elim
/-- a method's own proof -/
theorem meth_of {P : Program} {w : World} {mg : Str → Option Value} {base : Heap} {k : Nat} {x q : Str} {st : Stmt} {N ps : List Str} {psp : PSpec} {f : Addr} {fd : FuncData} (F : Fun K x q st f fd) (S : FnScope N ps (defScope st)) (len : ∀ vs M Q E, psp vs M Q E → vs.length = ps.length)
    (body : ∀ f cdv A outer s H E, Room k (defCx P w K mg base N q st f cdv A outer s H E).A → ∃ t, PSsp (defCx P w K mg base N q st f cdv A outer s H E) H (defBody st) t ∧ ∀ vs M Q Ep, psp vs M Q Ep → t (ends Q) (startP N vs) M) :
    FnOk P w K mg base CX0 (k + 1) f fd ps (concF K psp) := by
  refine F.ok S (fun vs H Q E h => ?_) (fun cdv A outer s H vs Q E hr h => ?_)
  · obtain ⟨qs, M, Qp, Ep, r, m, u, _⟩ := h
    rw [← r.length]
    exact len _ _ _ _ u
  · obtain ⟨qs, M, Qp, Ep, r, m, u, k1, k2⟩ := h
    obtain ⟨t, d, b⟩ := body f cdv A outer s H E hr
    refine ⟨_, d, startP N qs, M, ends Qp, Tk.refl _ _, startP_rel r N, m, b _ _ _ _ u, ⟨fun σ' H' σp' M' t1 s1 m1 q => ?_, fun v H' p M' t1 m1 r1 q => ?_, fun _ _ _ _ _ _ _ z => z.elim, fun _ _ _ _ _ _ _ z => z.elim⟩⟩
    · obtain ⟨M0, sb, q⟩ := q
      exact k1 _ _ _ _ t1 (m1.sub sb) .non q
    · obtain ⟨M0, sb, q⟩ := q
      exact k1 _ _ _ _ t1 (m1.sub sb) r1 q
end
end PL

set_option Elab.async false
set_option linter.all false
set_option maxRecDepth 100000
set_option maxHeartbeats 4000000
/-! PL18: k in d. -/
namespace PL
open PySem PySem.Spec L2
section
variable {X : Cx} {H0 : Hp} {pos : Pos} {K : Kf} {i o : Expr} {ti td : TEp}
@[reducible] def tDInP (neg : Bool) (ti td : TEp) : TEp := fun σ M Q => ti σ M fun y M1 => td σ M1 fun x M2 => match x with | .ref a => ∃ kvs k, rdD M2 a kvs ∧ y = kP k ∧ Q (.bl (if neg then !(valP kvs k).isSome else (valP kvs k).isSome)) M2 | _ => False
theorem din_conc {neg : Bool} {σ : L2.St} {H : Hp} {Q : VK} (h : concE K H0 (tDInP neg ti td) σ H Q) : concE K H0 ti σ H fun y H1 => concE K H0 td σ H1 fun x H2 => ∃ a ov, x = .ref a ∧ DGet H2 a y ov ∧ Q (.bl (if neg then !ov.isSome else ov.isSome)) H2 := by
  obtain ⟨σp, M, Qp, t, s, m, u, k⟩ := h
  refine ⟨σp, M, _, t, s, m, u, fun y H1 py M1 t1 m1 ry u1 => ⟨σp, M1, _, t.trans t1, s.mono t1, m1, u1, fun x H2 px M2 t2 m2 rx u2 => ?_⟩⟩
  cases rx with
  | ref a =>
    obtain ⟨kvs, kk, hd, rfl, q⟩ := u2
    obtain ⟨vs, e1, r⟩ := hd.to m2
    refine ⟨a, valV vs kk, rfl, .inl ⟨vs, kk, e1, kP_inv (ry.mono t2), rfl⟩, ?_⟩
    rcases r.val kk with ⟨n1, n2⟩ | ⟨p', v, n1, n2, rv⟩
    · rw [n1] at q; rw [n2]
      exact k _ _ _ _ (t1.trans t2) m2 (.bl _) q
    · rw [n1] at q; rw [n2]
      exact k _ _ _ _ (t1.trans t2) m2 (.bl _) q
  | _ => exact u2.elim
theorem pdin (hu : X.A.units + 1 < cLine) (hi : PEp X H0 i ti) (ho : PEp X H0 o td) (h1 : behindInMarks .In o = false := by rfl) : PEp X H0 (.Compare i [.In] [o] pos) (tDInP false ti td) :=
  peW (pe_cmp (pc_din hu hi ho) h1) fun σ H Q h => by exact din_conc h
theorem pdnotin (hu : X.A.units + 1 < cLine) (hi : PEp X H0 i ti) (ho : PEp X H0 o td) (h1 : behindInMarks .NotIn o = false := by rfl) : PEp X H0 (.Compare i [.NotIn] [o] pos) (tDInP true ti td) :=
  peW (pe_cmp (pc_dnotin hu hi ho) h1) fun σ H Q h => by exact din_conc h
theorem ptdin (hu : X.A.units + 1 < cLine) (hi : PEp X H0 i ti) (ho : PEp X H0 o td) (h1 : behindInMarks .In o = false := by rfl) : PTp X H0 (.Compare i [.In] [o] pos) (tB (tDInP false ti td)) :=
  ptW (pt_cmp (pc_din hu hi ho) h1) fun σ H Q h => by
    have h2 := tB_conc h
    exact din_conc h2
theorem ptdnotin (hu : X.A.units + 1 < cLine) (hi : PEp X H0 i ti) (ho : PEp X H0 o td) (h1 : behindInMarks .NotIn o = false := by rfl) : PTp X H0 (.Compare i [.NotIn] [o] pos) (tB (tDInP true ti td)) :=
  ptW (pt_cmp (pc_dnotin hu hi ho) h1) fun σ H Q h => by
    have h2 := tB_conc h
    exact din_conc h2
end
end PL

set_option Elab.async false
set_option linter.all false
set_option maxRecDepth 100000
set_option maxHeartbeats 2000000
/-! PL19: zip, enumerate in a loop. -/
namespace PL
open PySem PySem.Spec L2 PyProof.Rows
section
variable {K : Kf} {X : Cx} {H0 : Hp} {pos : Pos}
/-- a walk whose items are new pairs, laid with their object known -/
def pairIt (J : It) (is : Nat → Hp → V → V → Prop) : It :=
  ⟨J.go, fun i H v H' => ∃ (T : Addr) (ob : Obj) (x y : V), v = .ref T ∧ H T = none ∧ ob.dict = none ∧ H' = upd H T (.frz ob (.tup [x, y])) ∧ is i H x y, J.stop⟩
abbrev zipL (K : Kf) (a b : Addr) : It := pairIt (Itz K a b) fun i H x y => (∀ xs, SqL K H a xs → xs[i]? = some x) ∧ ∀ ys, SqL K H b ys → ys[i]? = some y
abbrev zipT (K : Kf) (a b : Addr) : It := pairIt (RZ.ItzT K a b) fun i H x y => (∀ xs, SqT K H a xs → xs[i]? = some x) ∧ ∀ ys, SqT K H b ys → ys[i]? = some y
theorem five_fp {pins : List (Addr × Obj)} {σ : L2.St} {H : Hp} {s : Shared} (I : Inv X pins σ H s) : ∀ c, c ∈ [s.heap.objs.size + 4, s.heap.objs.size + 2, s.heap.objs.size + 3, s.heap.objs.size, s.heap.objs.size + 1] → FpOk X pins H c := fun c hc => by
  have hle : s.heap.objs.size ≤ c := by
    simp only [List.mem_cons, List.not_mem_nil, or_false] at hc
    omega
  exact I.fpOk hle (I.hok.fresh hle)
theorem pair_ok {H : Hp} {h : Heap} {n : Addr} {x y : V} {u v : Value} {P : Program} {w : World} (e : h.get? n = some { cls := .type "tuple", data := .seq #[u, v] }) (rx : RelV x u) (ry : RelV y v) :
    ObjOk P w (upd H n (.frz { cls := .type "tuple", data := .seq #[u, v] } (.tup [x, y]))) h n (.frz { cls := .type "tuple", data := .seq #[u, v] } (.tup [x, y])) :=
  ⟨e, by show 2 ≤ sizeLine; decide, [u, v], .cons rx (.cons ry .nil), ⟨_, e, rfl, _, rfl⟩⟩
theorem fp_pair {pins : List (Addr × Obj)} {H : Hp} {cs : List Addr} {n : Nat} {o : HO} (hf : ∀ c ∈ cs, FpOk X pins H c) (hl : ∀ c ∈ cs, c < n) : ∀ c ∈ cs, (upd H n o) c = none := fun c hc => by
  rw [upd_ne (Nat.ne_of_lt (hl c hc))]
  exact (hf c hc).1
theorem turn_zl {P : Program} {w : World} {elts : List Expr} {kk : Nat} {tpos : Pos} {a b z TI TO i1 i2 : Addr} (D : ZipApart z TI TO i1 i2 a b) :
    Turn P w K (.Tuple elts kk tpos) (zipL K a b) [z, TI, TO, i1, i2] z (fun i h => IsZip h z TI TO .none ∧ IsPair h TI (.ref i1) (.ref i2) ∧ (∃ x y, IsPair h TO x y) ∧ h.IsListIter i1 a i ∧ h.IsListIter i2 b i) :=
  have T0 := turn_zip (P := P) (w := w) (K := K) (elts := elts) (kk := kk) (tpos := tpos) D
  { mem := T0.mem, obj := T0.obj, keep := T0.keep, done := T0.done, self := T0.self
    item := by
      intro X hP hw hK hc i pins s σ H E I hf st hg
      subst hP hw hK
      obtain ⟨hz, hTI, ⟨x0, y0, hTO⟩, h1, h2⟩ := st
      obtain ⟨xs, ys, x, y, hx, hy, gx, gy⟩ := hg
      obtain ⟨us, ru, lu, _⟩ := I.list hx
      obtain ⟨vs, rv, lv, _⟩ := I.list hy
      obtain ⟨u, hu, ru⟩ := ru.get gx
      obtain ⟨v, hv, rv⟩ := rv.get gy
      have zl : z < s.heap.objs.size := Heap.lt_size hz
      refine wpAny_pyNext_zip_item D hz hTI hTO h1 h2 lu.isList lv.isList (x := u) (y := v) (by simpa using hu) (by simpa using hv) fun h' z1 O1 j1 j2 hT _ kp => ?_
      refine ⟨_, rfl, wpAny_letOwnedTupleGo_zip (s := { s with heap := h' }) z1 fun h2' z2 sb => ?_⟩
      have there : h2'.get? s.heap.objs.size = some { cls := .type "tuple", data := .seq #[u, v] } := (sb.2 _ (Nat.ne_of_gt zl)).trans hT
      refine ⟨.ref s.heap.objs.size, _, I.turnedNew (t' := s.toks) (ch := [z, TI, TO, i1, i2]) (fun c o nc q => (sb.2 c fun q' => nc (by simp [q'])).trans (kp c o (fun q' => nc (by simp [q'])) (fun q' => nc (by simp [q'])) (fun q' => nc (by simp [q'])) (fun q' => nc (by simp [q'])) q)) hf (Nat.le_refl _) (pair_ok there ru rv), rfl,
        ⟨_, _, x, y, rfl, I.hok.fresh (Nat.le_refl _), rfl, rfl, fun l hl => by rw [I.list_inj hl hx]; exact gx, fun l hl => by rw [I.list_inj hl hy]; exact gy⟩,
        ⟨z2, (sb.2 _ D.TIz).trans (kp _ _ D.TIz D.TITO D.TIi1 D.TIi2 hTI), ⟨u, v, (sb.2 _ D.TOz).trans O1⟩, j1.at fun o q => (sb.2 _ D.i1z).trans q, j2.at fun o q => (sb.2 _ D.i2z).trans q⟩, fp_pair hf fun c hc => ?_⟩
      simp only [List.mem_cons, List.not_mem_nil, or_false] at hc
      rcases hc with rfl | rfl | rfl | rfl | rfl
      · exact zl
      · exact Heap.lt_size hTI
      · exact Heap.lt_size hTO
      · obtain ⟨_, e1, _⟩ := h1; exact Heap.lt_size e1
      · obtain ⟨_, e2, _⟩ := h2; exact Heap.lt_size e2 }
theorem turn_zt {P : Program} {w : World} {elts : List Expr} {kk : Nat} {tpos : Pos} {a b z TI TO i1 i2 : Addr} (D : ZipApart z TI TO i1 i2 a b) :
    Turn P w K (.Tuple elts kk tpos) (zipT K a b) [z, TI, TO, i1, i2] z (fun i h => IsZip h z TI TO .none ∧ IsPair h TI (.ref i1) (.ref i2) ∧ (∃ x y, IsPair h TO x y) ∧ h.IsTupleIter i1 a i ∧ h.IsTupleIter i2 b i) :=
  have T0 := RZ.turn_zipT (P := P) (w := w) (K := K) (elts := elts) (kk := kk) (tpos := tpos) D
  { mem := T0.mem, obj := T0.obj, keep := T0.keep, done := T0.done, self := T0.self
    item := by
      intro X hP hw hK hc i pins s σ H E I hf st hg
      subst hP hw hK
      obtain ⟨hz, hTI, ⟨x0, y0, hTO⟩, h1, h2⟩ := st
      obtain ⟨xs, ys, x, y, hx, hy, gx, gy⟩ := hg
      obtain ⟨us, ru, lu, _⟩ := I.tuple hx
      obtain ⟨vs, rv, lv, _⟩ := I.tuple hy
      obtain ⟨u, hu, ru⟩ := ru.get gx
      obtain ⟨v, hv, rv⟩ := rv.get gy
      have zl : z < s.heap.objs.size := Heap.lt_size hz
      refine RZ.pyNext_zipT_item D hz hTI hTO h1 h2 lu lv (x := u) (y := v) (by simpa using hu) (by simpa using hv) fun h' z1 O1 j1 j2 hT _ kp => ?_
      refine ⟨_, rfl, wpAny_letOwnedTupleGo_zip (s := { s with heap := h' }) z1 fun h2' z2 sb => ?_⟩
      have there : h2'.get? s.heap.objs.size = some { cls := .type "tuple", data := .seq #[u, v] } := (sb.2 _ (Nat.ne_of_gt zl)).trans hT
      refine ⟨.ref s.heap.objs.size, _, I.turnedNew (t' := s.toks) (ch := [z, TI, TO, i1, i2]) (fun c o nc q => (sb.2 c fun q' => nc (by simp [q'])).trans (kp c o (fun q' => nc (by simp [q'])) (fun q' => nc (by simp [q'])) (fun q' => nc (by simp [q'])) (fun q' => nc (by simp [q'])) q)) hf (Nat.le_refl _) (pair_ok there ru rv), rfl,
        ⟨_, _, x, y, rfl, I.hok.fresh (Nat.le_refl _), rfl, rfl, fun l hl => by rw [I.tuple_inj hl hx]; exact gx, fun l hl => by rw [I.tuple_inj hl hy]; exact gy⟩,
        ⟨z2, (sb.2 _ D.TIz).trans (kp _ _ D.TIz D.TITO D.TIi1 D.TIi2 hTI), ⟨u, v, (sb.2 _ D.TOz).trans O1⟩, j1.at fun o q => (sb.2 _ D.i1z).trans q, j2.at fun o q => (sb.2 _ D.i2z).trans q⟩, fp_pair hf fun c hc => ?_⟩
      simp only [List.mem_cons, List.not_mem_nil, or_false] at hc
      rcases hc with rfl | rfl | rfl | rfl | rfl
      · exact zl
      · exact Heap.lt_size hTI
      · exact Heap.lt_size hTO
      · obtain ⟨_, e1, _⟩ := h1; exact Heap.lt_size e1
      · obtain ⟨_, e2, _⟩ := h2; exact Heap.lt_size e2 }
def iZipX (K : PySem.W.Frag) (ta : TA) : TI := fun σ H R => ta σ H fun vs H1 => ∃ a b xs ys, vs = [.ref a, .ref b] ∧ ((SqL K H1 a xs ∧ SqL K H1 b ys ∧ R (zipL K a b) H1) ∨ (SqT K H1 a xs ∧ SqT K H1 b ys ∧ R (zipT K a b) H1))
theorem pi_zipX {e e2 : Expr} {ta : TA} {p tpos : Pos} {elts : List Expr} {kk : Nat} (hg : Gl X "zip") (hm : X.mg "zip" = none) (ha : PA X [e, e2] ta)
    (hs : starEach [e, e2] X.env = (false, eval e X.env) :: starEach [e2] X.env := by rfl) (hpl : (backTo pos (starEach [e2] X.env)).any (·.1) = false := by rfl) :
    PI X (.Tuple elts kk tpos) (.Call (.Name "zip" p) [e, e2] [] pos) (iZipX X.K ta) := by
  refine ⟨fun pins s σ H R I q => ?_⟩
  refine Call_ (ld_blt I hg hm PyProof.Rows.boot_zip (PyProof.Rows.callWith_type1 (thn (ha.run pos pins s σ H _ I q) fun us s1 ⟨vs, H1, I1, r1, a, b, xs, ys, ex, q1⟩ => ?_) hs hpl))
  subst ex
  obtain ⟨r, rs, rfl, rr, rrs⟩ : ∃ r rs, us = r :: rs ∧ RelV (.ref a) r ∧ Vals [.ref b] rs := by cases r1 with | cons q1 q2 => exact ⟨_, _, rfl, q1, q2⟩
  obtain ⟨r', rfl, rr'⟩ := vals1 rrs
  cases rr
  cases rr'
  have five := five_fp I1
  rcases q1 with ⟨hx, hy, q1⟩ | ⟨hx, hy, q1⟩
  · obtain ⟨_, _, p1, _⟩ := I1.list hx
    obtain ⟨_, _, p2, _⟩ := I1.list hy
    refine call_zip_2 p1.isList p2.isList fun h' hz hTI hTO h1 h2 _ kp => wpAny_pyIter_zip hz ?_
    exact ⟨_, _, _, _, H1, rfl, I1.kept (t' := s1.toks) kp, turn_zl (PySem.W.ktu_apart s1.heap.objs.size a b p1.lt p2.lt), ⟨hz, hTI, ⟨_, _, hTO⟩, h1, h2⟩, five, q1⟩
  · obtain ⟨_, _, p1, _⟩ := I1.tuple hx
    obtain ⟨_, _, p2, _⟩ := I1.tuple hy
    obtain ⟨_, g1, _⟩ := id p1
    obtain ⟨_, g2, _⟩ := id p2
    refine RZ.call_zipT p1 p2 fun h' hz hTI hTO h1 h2 _ kp => wpAny_pyIter_zip hz ?_
    exact ⟨_, _, _, _, H1, rfl, I1.kept (t' := s1.toks) kp, turn_zt (PySem.W.ktu_apart s1.heap.objs.size a b (Heap.lt_size g1) (Heap.lt_size g2)), ⟨hz, hTI, ⟨_, _, hTO⟩, h1, h2⟩, five, q1⟩
def zipP (l l' : List PV) : List PV := List.zipWith (fun x y => PV.tup [x, y]) l l'
theorem zipP_get {l l' : List PV} {i : Nat} {p : PV} (h : (zipP l l')[i]? = some p) : ∃ x y, l[i]? = some x ∧ l'[i]? = some y ∧ p = .tup [x, y] := by
  unfold zipP at h
  rw [List.getElem?_zipWith] at h
  cases h1 : l[i]? with
  | none => rw [h1] at h; cases h
  | some x =>
    cases h2 : l'[i]? with
    | none => rw [h1, h2] at h; cases h
    | some y => rw [h1, h2] at h; exact ⟨x, y, rfl, rfl, (Option.some.inj h).symm⟩
theorem zipP_of {l l' : List PV} {i : Nat} {x y : PV} (h1 : l[i]? = some x) (h2 : l'[i]? = some y) : (zipP l l')[i]? = some (.tup [x, y]) := by unfold zipP; rw [List.getElem?_zipWith, h1, h2]
theorem zipP_len {l l' : List PV} : (zipP l l').length = min l.length l'.length := by unfold zipP; exact List.length_zipWith
theorem pair_rep {H : Hp} {T : Addr} {ob : Obj} {x y : V} {px py : PV} (hT : H T = none) (hd : ob.dict = none) (rx : Rep K H px x) (ry : Rep K H py y) : Rep K (upd H T (.frz ob (.tup [x, y]))) (.tup [px, py]) (.ref T) ∧ Tk K H (upd H T (.frz ob (.tup [x, y]))) ∧ ∀ M, RelM K H M → RelM K (upd H T (.frz ob (.tup [x, y]))) M := by
  have t : Tk K H (upd H T (.frz ob (.tup [x, y]))) := .new hT
  exact ⟨.tup (.inl ⟨ob, upd_same, hd⟩) (Reps.mono t (.cons rx (.cons ry .nil))), t, fun M m => m.new hT⟩
theorem itr_zl {H1 : Hp} {a b : Addr} {l l' : List PV} : ItR K H1 (zipL K a b) (zipP l l') (fun M => rdL K M a l ∧ rdL K M b l') where
  go := fun i H M t m k hi => by
    obtain ⟨vs, e, r⟩ := k.1.to m
    obtain ⟨ws, e2, r2⟩ := k.2.to m
    rw [zipP_len] at hi
    have h1 : i < vs.length := by rw [← r.length]; omega
    have h2 : i < ws.length := by rw [← r2.length]; omega
    exact ⟨vs, ws, vs[i], ws[i], e, e2, by simp [h1], by simp [h2]⟩
  yld := fun i H M x H' t m k hi y => by
    obtain ⟨T, ob, u, v, rfl, hT, hd, rfl, g1, g2⟩ := y
    obtain ⟨vs, e, r⟩ := k.1.to m
    obtain ⟨ws, e2, r2⟩ := k.2.to m
    rw [zipP_len] at hi
    obtain ⟨v1, q1, p1⟩ := r.get (List.getElem?_eq_getElem (show i < l.length by omega))
    obtain ⟨v2, q2, p2⟩ := r2.get (List.getElem?_eq_getElem (show i < l'.length by omega))
    have q3 := g1 vs e
    have q4 := g2 ws e2
    rw [q1] at q3; cases q3
    rw [q2] at q4; cases q4
    exact ⟨_, zipP_of (List.getElem?_eq_getElem (by omega)) (List.getElem?_eq_getElem (by omega)), pair_rep hT hd p1 p2⟩
  stop := fun H M t m k => by
    obtain ⟨vs, e, r⟩ := k.1.to m
    obtain ⟨ws, e2, r2⟩ := k.2.to m
    refine ⟨vs, ws, e, e2, ?_⟩
    rw [zipP_len, r.length, r2.length]; omega
theorem itr_zt {H1 : Hp} {a b : Addr} {l l' : List PV} {vs ws : List V} (h : SqX K H1 a vs) (r : Reps K H1 l vs) (h2 : SqX K H1 b ws) (r2 : Reps K H1 l' ws) : ItR K H1 (zipT K a b) (zipP l l') (fun _ => True) where
  go := fun i H M t m k hi => by
    rw [zipP_len] at hi
    have h1 : i < vs.length := by rw [← r.length]; omega
    have h3 : i < ws.length := by rw [← r2.length]; omega
    exact ⟨vs, ws, vs[i], ws[i], (t _ _ h).t, (t _ _ h2).t, by simp [h1], by simp [h3]⟩
  yld := fun i H M x H' t m k hi y => by
    obtain ⟨T, ob, u, v, rfl, hT, hd, rfl, g1, g2⟩ := y
    rw [zipP_len] at hi
    obtain ⟨v1, q1, p1⟩ := (r.mono t).get (List.getElem?_eq_getElem (show i < l.length by omega))
    obtain ⟨v2, q2, p2⟩ := (r2.mono t).get (List.getElem?_eq_getElem (show i < l'.length by omega))
    have q3 := g1 vs (t _ _ h).t
    have q4 := g2 ws (t _ _ h2).t
    rw [q1] at q3; cases q3
    rw [q2] at q4; cases q4
    exact ⟨_, zipP_of (List.getElem?_eq_getElem (by omega)) (List.getElem?_eq_getElem (by omega)), pair_rep hT hd p1 p2⟩
  stop := fun H M t m k => by
    refine ⟨vs, ws, (t _ _ h).t, (t _ _ h2).t, ?_⟩
    rw [zipP_len, r.length, r2.length]; omega
@[reducible] def iZipP (K : Kf) (ta : TAp) : TIp := fun σ M R => ta σ M fun vs M1 => match vs with
  | [.tup l, .tup l'] => R (zipP l l') (fun _ => True) M1
  | [.ref a, .ref b] => ∃ l l', rdL K M1 a l ∧ rdL K M1 b l' ∧ R (zipP l l') (fun M => rdL K M a l ∧ rdL K M b l') M1
  | _ => False
theorem pizip {e e2 : Expr} {ta : TAp} {p tpos : Pos} {elts : List Expr} {kk : Nat} (hg : Gl X "zip") (hm : X.mg "zip" = none) (ha : PAp X H0 [e, e2] ta)
    (hs : starEach [e, e2] X.env = (false, eval e X.env) :: starEach [e2] X.env := by rfl) (hpl : (backTo pos (starEach [e2] X.env)).any (·.1) = false := by rfl) :
    PIp' X H0 (.Tuple elts kk tpos) (.Call (.Name "zip" p) [e, e2] [] pos) (iZipP X.K ta) :=
  piW (pi_zipX hg hm ha hs hpl) fun σ H R ⟨σp, M, Rp, t, s, m, u, k⟩ => ⟨σp, M, _, t, s, m, u, fun vs H1 ps M1 t1 m1 rs u1 => by
    cases rs with
    | nil => exact u1.elim
    | cons r rr => cases rr with
      | nil => cases r <;> exact u1.elim
      | cons r2 rr2 => cases rr2 with
        | cons _ _ => cases r <;> cases r2 <;> exact u1.elim
        | nil => cases r with
          | tup h q => cases r2 with
            | tup h2 q2 => exact ⟨_, _, _, _, rfl, .inr ⟨h.t, h2.t, k _ _ _ _ _ t1 m1 (itr_zt h q h2 q2) u1⟩⟩
            | _ => exact u1.elim
          | ref a => cases r2 with
            | ref b =>
              obtain ⟨l, l', h1, h2, u1⟩ := u1
              obtain ⟨vs, e, _⟩ := h1.to m1
              obtain ⟨ws, e2, _⟩ := h2.to m1
              exact ⟨a, b, _, _, rfl, .inl ⟨e, e2, k _ _ _ _ _ t1 m1 itr_zl u1⟩⟩
            | _ => exact u1.elim
          | _ => cases r2 <;> exact u1.elim⟩
end
end PL

set_option Elab.async false
set_option linter.all false
set_option maxRecDepth 100000
set_option maxHeartbeats 2000000
/-! PL20: x in l of exact data (no bools), tuples too. -/
namespace PL
open PySem PySem.Spec L2 PyProof.Rows
section
variable {K : Kf} {X : Cx} {H0 : Hp} {pos : Pos}
/-- data that == tells apart by what they are -/
inductive TxtD : Nat → PV → Prop
  | non {n} : TxtD (n + 1) .non
  | int {n} (i) : TxtD (n + 1) (.int i)
  | str {n} (x) : TxtD (n + 1) (.str x)
  | tup {n l} : l.length ≤ 16777216 → (∀ x ∈ l, TxtD n x) → TxtD (n + 1) (.tup l)
theorem TxtD.pure : ∀ {n : Nat} {x : PV}, TxtD n x → PureD n x
  | _, _, .non => .non
  | _, _, .int _ => .int _
  | _, _, .str _ => .str _
  | _ + 1, .tup _, .tup h1 h2 => .tup h1 fun x hx => (h2 x hx).pure
theorem PureD.plain : ∀ {n : Nat} {x : PV}, PureD n x → (toD x).plain = true
  | _, _, .non => rfl
  | _, _, .bl _ => rfl
  | _, _, .int _ => rfl
  | _, _, .str _ => rfl
  | n + 1, .tup l, .tup _ h => by
    have key : ∀ l : List PV, (∀ x ∈ l, PureD n x) → PyData.plainAll (toDs l) = true := by
      intro l
      induction l with
      | nil => intro _; rfl
      | cons x r ih =>
        intro h
        show ((toD x).plain && PyData.plainAll (toDs r)) = true
        rw [PureD.plain (h x List.mem_cons_self), ih fun y hy => h y (List.mem_cons_of_mem _ hy)]; rfl
    exact key l h
theorem plain_all {n : Nat} : ∀ {l : List PV}, (∀ x ∈ l, PureD n x) → PyData.plainAll (toDs l) = true
  | [], _ => rfl
  | x :: r, h => by
    show ((toD x).plain && PyData.plainAll (toDs r)) = true
    rw [PureD.plain (h x List.mem_cons_self), plain_all fun y hy => h y (List.mem_cons_of_mem _ hy)]; rfl
theorem dps_all {n : Nat} {M : PHp} : ∀ {l : List PV}, (∀ x ∈ l, PureD n x) → DpsP K M l (toDs l)
  | [], _ => .nil
  | x :: r, h => .cons (h x List.mem_cons_self).dp (dps_all fun y hy => h y (List.mem_cons_of_mem _ hy))
theorem TxtD.eqv : ∀ {n m : Nat} {x y : PV}, TxtD n x → TxtD m y → (PyData.eqv (toD x) (toD y) = true ↔ x = y)
  | _, _, _, _, .non, .non => by simp [toD, PyData.eqv]
  | _, _, _, _, .non, .int _ => by simp [toD, PyData.eqv]
  | _, _, _, _, .non, .str _ => by simp [toD, PyData.eqv]
  | _, _, _, _, .non, .tup _ _ => by simp [toD, PyData.eqv]
  | _, _, _, _, .int _, .non => by simp [toD, PyData.eqv]
  | _, _, _, _, .int i, .int j => by simp [toD, PyData.eqv]
  | _, _, _, _, .int _, .str _ => by simp [toD, PyData.eqv]
  | _, _, _, _, .int _, .tup _ _ => by simp [toD, PyData.eqv]
  | _, _, _, _, .str _, .non => by simp [toD, PyData.eqv]
  | _, _, _, _, .str _, .int _ => by simp [toD, PyData.eqv]
  | _, _, _, _, .str a, .str b => by simp [toD, PyData.eqv]
  | _, _, _, _, .str _, .tup _ _ => by simp [toD, PyData.eqv]
  | _, _, _, _, .tup _ _, .non => by simp [toD, PyData.eqv]
  | _, _, _, _, .tup _ _, .int _ => by simp [toD, PyData.eqv]
  | _, _, _, _, .tup _ _, .str _ => by simp [toD, PyData.eqv]
  | n + 1, m + 1, .tup l, .tup l', .tup _ h, .tup _ h' => by
    have key : ∀ l l' : List PV, (∀ x ∈ l, TxtD n x) → (∀ x ∈ l', TxtD m x) → (PyData.eqvAll (toDs l) (toDs l') = true ↔ l = l') := by
      intro l
      induction l with
      | nil =>
        intro l' _ _
        cases l' with
        | nil => simp [toDs, PyData.eqvAll]
        | cons y l' => simp [toDs, PyData.eqvAll]
      | cons x l ih =>
        intro l' h h'
        cases l' with
        | nil => simp [toDs, PyData.eqvAll]
        | cons y l' =>
          show (PyData.eqv (toD x) (toD y) && PyData.eqvAll (toDs l) (toDs l')) = true ↔ _
          rw [Bool.and_eq_true, TxtD.eqv (h x List.mem_cons_self) (h' y List.mem_cons_self), ih l' (fun z hz => h z (List.mem_cons_of_mem _ hz)) (fun z hz => h' z (List.mem_cons_of_mem _ hz)), List.cons.injEq]
    show PyData.eqvAll (toDs l) (toDs l') = true ↔ _
    rw [key l l' h h', PV.tup.injEq]
theorem any_txt {n m : Nat} {x : PV} {l : List PV} (hx : TxtD n x) (hl : ∀ z ∈ l, TxtD m z) : ((toDs l).any fun y => PyData.eqv y (toD x)) = true ↔ x ∈ l := by
  rw [toDs_map, List.any_map, List.any_eq_true]
  constructor
  · rintro ⟨z, hz, e⟩
    rw [← (TxtD.eqv (hl z hz) hx).mp e]; exact hz
  · intro h
    exact ⟨x, h, (TxtD.eqv (hl x h) hx).mpr rfl⟩
def rInF (K : Kf) (neg : Bool) : R2 := fun x y H Q => ∃ d ds, Dp K H x d ∧ Dp K H y (.list ds) ∧ d.plain = true ∧ d.depth ≤ 40 ∧ PyData.plainAll ds = true ∧ Q (.bl (if neg then !(ds.any fun z => PyData.eqv z d) else ds.any fun z => PyData.eqv z d)) H
theorem op_inF (hu : X.A.units + 64 < cLine) : OpR X (compareOp .In) (rInF X.K false) := by
  intro pins s σ H x y v u Q I rx ry h
  obtain ⟨d, ds, hd, he, pd, dd, pe, q⟩ := h
  obtain ⟨as, r1⟩ := Dp.reads I d x v hd rx
  obtain ⟨bs, r2⟩ := Dp.reads I (.list ds) y u he ry
  exact SeqAt.in_list_data r2 r1 pe pd (by have := Nat.min_le_right (PyData.depthAll ds) d.depth; omega) ⟨.bl _, H, I, rfl, q⟩
theorem op_notInF (hu : X.A.units + 64 < cLine) : OpR X (compareOp .NotIn) (rInF X.K true) := by
  intro pins s σ H x y v u Q I rx ry h
  obtain ⟨d, ds, hd, he, pd, dd, pe, q⟩ := h
  obtain ⟨as, r1⟩ := Dp.reads I d x v hd rx
  obtain ⟨bs, r2⟩ := Dp.reads I (.list ds) y u he ry
  exact SeqAt.notIn_list_data r2 r1 pe pd (by have := Nat.min_le_right (PyData.depthAll ds) d.depth; omega) ⟨.bl _, H, I, rfl, q⟩
/-- x in l: tuples among tuples -/
def inDP (K : Kf) (neg : Bool) : R2p := fun x y M Q => match y with
  | .ref a => ∃ l, rdL K M a l ∧ TxtD 40 x ∧ (∀ z ∈ l, TxtD 40 z) ∧ ∀ b, (b = true ↔ x ∈ l) → Q (.bl (if neg then !b else b)) M
  | _ => False
theorem inD_sim {neg : Bool} : SimR K (rInF K neg) (inDP K neg) := fun x y H px py M Q Qp rx ry m u k => by
  cases ry with
  | ref a =>
    obtain ⟨l, h, hx, hl, q⟩ := u
    exact ⟨toD px, toDs l, hx.pure.dp.to m rx, (DpP.lst h (dps_all fun z hz => (hl z hz).pure)).to m (.ref a), hx.pure.plain, hx.pure.depth, plain_all fun z hz => (hl z hz).pure, k _ _ _ _ (Tk.refl _ _) m (.bl _) (q _ (any_txt hx hl))⟩
  | _ => exact u.elim
theorem opInD (hu : X.A.units + 64 < cLine) (hK : X.K = K := by rfl) : OpP X (compareOp .In) (inDP K false) := hK ▸ ⟨_, op_inF hu, inD_sim⟩
theorem opNotInD (hu : X.A.units + 64 < cLine) (hK : X.K = K := by rfl) : OpP X (compareOp .NotIn) (inDP K true) := hK ▸ ⟨_, op_notInF hu, inD_sim⟩
end
end PL

set_option Elab.async false
set_option linter.all false
set_option maxRecDepth 100000
set_option maxHeartbeats 4000000
/-! PL21: a list made longer by another one. -/
namespace PL
open PySem L2
section
variable {X : Cx}
def extendP : RMp := fun x ps M Q => match x, ps with
  | .ref a, [.ref b] => ∃ l r, M a = some (.lst l) ∧ M b = some (.lst r) ∧ l.length + r.length ≤ sizeLine ∧ Q .non (updM M a (.lst (l ++ r)))
  | _, _ => False
theorem mExtend : MtP X "list.extend" extendP := by
  refine ⟨_, mt_extend, fun x xs H px ps M Q Qp rx rs m u k => ?_⟩
  cases rx with
  | ref a => cases rs with
    | nil => exact u.elim
    | cons r rr => cases rr with
      | cons _ _ => cases r <;> exact u.elim
      | nil => cases r with
        | ref b =>
          obtain ⟨l, r, h, h2, hl, q⟩ := u
          obtain ⟨vs, e, rv⟩ := m _ _ h
          obtain ⟨us, e2, ru⟩ := m _ _ h2
          obtain ⟨tk, mm⟩ := Tk_set (l := l) m e (rv.append ru)
          exact ⟨_, _, _, _, rfl, rfl, e, e2, by rw [← rv.length, ← ru.length]; exact hl, k _ _ _ _ tk mm .non q⟩
        | _ => exact u.elim
  | _ => cases rs <;> exact u.elim
end
end PL

set_option Elab.async false
set_option linter.all false
set_option maxRecDepth 100000
set_option maxHeartbeats 4000000
/-! PL22: three names at once. -/
namespace PL
open PySem L2
section
variable {X : Cx} {H0 : Hp} {pos : Pos}
/-- a, b, c = e1, e2, e3 -/
@[reducible] def tPar3 (i j l : Nat) (ta : TAp) : TSp := fun D σ M => ta σ M fun vs M1 => match vs with | [u, v, w] => D.nx (((σ.set i (some u)).set j (some v)).set l (some w)) M1 | _ => False
theorem pspar3 (i j l : Nat) {x y z : Str} {a b c : Expr} {ta : TAp} {px py pz pt : Pos} {kt k2 pt2} (hc : X.calm = true) (hN : X.N.Nodup) (ha : PAp X H0 [a, b, c] ta) (hi : X.N[i]? = some x := by rfl) (hj : X.N[j]? = some y := by rfl) (hl : X.N[l]? = some z := by rfl)
    (p : ∀ t, PA X [a, b, c] t → PS X (.Assign [.Tuple [.Name x px, .Name y py, .Name z pz] kt pt] (.Tuple [a, b, c] k2 pt2) pos) (L2.tPar3 i j l t)) : PSp' X H0 (.Assign [.Tuple [.Name x px, .Name y py, .Name z pz] kt pt] (.Tuple [a, b, c] k2 pt2) pos) (tPar3 i j l ta) :=
  psW (p _ ha) fun D σ H ⟨σp, M, Dp, t, s, m, u, k⟩ => ⟨σp, M, _, t, s, m, u, fun vs H1 ps M1 t1 m1 rs u1 => by
    cases rs with
    | nil => exact u1.elim
    | cons r rr => cases rr with
      | nil => exact u1.elim
      | cons r2 rr2 => cases rr2 with
        | nil => exact u1.elim
        | cons r3 rr3 => cases rr3 with
          | nil => exact ⟨_, _, _, rfl, k.nx _ _ _ _ t1 ((((s.mono t1).set r i).set r2 j).set r3 l) m1 u1⟩
          | cons _ _ => exact u1.elim⟩
end
end PL

set_option Elab.async false
set_option linter.all false
set_option maxRecDepth 100000
set_option maxHeartbeats 4000000
/-! PL23: exceptions of the program's own classes. -/
namespace PL
open PySem L2 PySem.Spec
/-- what is wanted of an exception: its class, its dict, the slots, the heap -/
abbrev PWX := Value → Option Addr → PSt → PHp → Prop
def concW (K : Kf) (H0 : Hp) (pw : PWX) : WX := fun cls d σ H => ∃ σp M, Tk K H0 H ∧ RelS K H σp σ ∧ RelM K H M ∧ pw cls d σp M
theorem concW.imp {K : Kf} {H0 : Hp} {pw pw' : PWX} (h : ∀ c d σ M, pw c d σ M → pw' c d σ M) {c : Value} {d : Option Addr} {σ : L2.St} {H : Hp} (x : concW K H0 pw c d σ H) : concW K H0 pw' c d σ H := by
  obtain ⟨σp, M, a1, a2, a3, a4⟩ := x
  exact ⟨σp, M, a1, a2, a3, h _ _ _ _ a4⟩
/-- an own class over ValueError, without a maker of its own -/
structure Own (K : Kf) (mg : Str → Option Value) (x : Str) (C : Addr) : Prop where
  g : mg x = some (.ref C)
  q : PySem.W.excIn K C [.type "ValueError", .type "Exception", .type "BaseException", .type "object"] "ValueError.__new__" = true
  kp : PySem.W.keepIn K (.ref C) = true
  sb : PySem.W.subIn K (.ref C) (.type "BaseException") = some true
  ty : PySem.W.typeIn K (.ref C) = some (.type "type")
  hd : PySem.W.hasDictIn K C = true
theorem pmk_own1N {X : Cx} {C : Addr} {bmB : List Value} {B newId initId : String} {x : Str} {e : Expr} {ta : TE} {p pos : Pos} (F : ExcBaseFacts B newId initId bmB) (q : PySem.W.excIn X.K C bmB newId = true) (gC : X.mg x = some (.ref C)) (kC : PySem.W.keepIn X.K (.ref C) = true) (r : L2.Raises X (.ref C)) (hg : Gl X x)
    (he : PE X e ta) (hs : starEach [e] X.env = (false, eval e X.env) :: starEach [] X.env := by rfl) (hdb : (x == ("__debug__" : Str)) = false := by decide) :
    L2N.PMk X (.Call (.Name x p) [e] [] pos) (fun σ H Q => ta σ H fun _ H1 => Q (.ref C) none H1) := by
  intro pins s σ H Q I h
  refine wpAny_Call_Name_kw (ld_glob I hg gC ?_ hdb)
  refine PySem.W.callWith_K (h₀ := X.base) I.ok.mod.kin kC ?_ hs (by rfl)
  rw [hs]
  refine Calls.spliced_cons (thn (he.run pins s σ H _ I h) fun u s1 ⟨v, H1, I1, r1, q1⟩ => ?_)
  refine Calls.spliced_nil ⟨I1.kIn, ?_⟩
  obtain ⟨bm, N, nm, qn, bs, hdct, sn, sub, ab, col, dd, k0, k1, k2, k3, k5, mN, hC, hN, hni, T⟩ := exc_obj I1.kIn q
  refine wpAny_call_exc_subT F T hC hN hni (fun h' e hm => ?_) (by show 1 ≤ sizeLine; rw [sizeLine_eq]; omega)
  exact L2N.mk_of I1 hm r q1 (I1.hok.gone hm.new)
/-- where an exception may go -/
structure Air (T : CXT) (X : Cx) (H0 : Hp) (pw : PWX) : Prop where
  pass : ∀ σ, PassesAt T X σ (WE (concW X.K H0 pw) σ)
  raise : ∀ {x m : Str} {C : Addr} {j : Nat} {p p2 pos pos' : Pos}, Own X.K X.mg x C → Gl X x → (x == ("__debug__" : Str)) = false → PS X (.Raise (some (.Call (.Name x p) [.Constant (.str m) j p2] [] pos)) none pos') fun _ σ H => concW X.K H0 pw (.ref C) none σ H
  raise1 : ∀ {x : Str} {C : Addr} {p pos pos' : Pos} {e : Expr} {te : TE}, Own X.K X.mg x C → Gl X x → (x == ("__debug__" : Str)) = false → PE X e te → starEach [e] X.env = (false, eval e X.env) :: starEach [] X.env → PS X (.Raise (some (.Call (.Name x p) [e] [] pos)) none pos') fun _ σ H => te σ H fun _ H1 => concW X.K H0 pw (.ref C) none σ H1
section
variable {X : Cx} {H0 : Hp} {pos : Pos} {pw : PWX}
theorem Air.z (hc : X.calm = true) (tk : L2.Takes X (concW X.K H0 pw)) : Air (L2.CX X.prog X.w) X H0 pw :=
  ⟨fun σ => L2.passAt tk σ, fun O hg hd => L2.ps_raise hc tk (L2.pmk_own PySem.F.excBase_ValueError O.q O.g O.kp (L2.raises_own O.sb O.ty) hg hd), fun O hg hd he hs => L2.ps_raise hc tk (SkE.pmk_own1 PySem.F.excBase_ValueError O.q O.g O.kp (L2.raises_own O.sb O.ty) hg he hs hd)⟩
theorem Air.n (hc : X.calm = true) (tk : L2N.Takes X (concW X.K H0 pw)) : Air (L2N.CX X.prog X.w) X H0 pw :=
  ⟨fun σ => L2N.passAt tk σ, fun O hg hd => L2N.ps_raise hc tk (L2N.pmk_own PySem.F.excBase_ValueError O.q O.g O.kp (L2.raises_own O.sb O.ty) hg hd), fun O hg hd he hs => L2N.ps_raise hc tk (pmk_own1N PySem.F.excBase_ValueError O.q O.g O.kp (L2.raises_own O.sb O.ty) hg he hs hd)⟩
theorem cx_nz {P : Program} {w : World} {outer : List Env} {H : Hp} {s : Shared} {E : XK} {u : Value} {s' : Shared} (h : L2N.CX P w outer H s E u s') : L2.CX P w outer H s E u s' := by
  obtain ⟨a, B, H', cls, d, e, fl, r⟩ := h
  exact ⟨a, B, H', cls, d, e, L2H.flyingZ_imp (fun o => L2N.Zn.zc) fl, r⟩
theorem Air.ofz (h : Air (L2.CX X.prog X.w) X H0 pw) : Air (L2N.CX X.prog X.w) X H0 pw := ⟨fun σ pins H s e s' I c => h.pass σ pins H s e s' I (cx_nz c), h.raise, h.raise1⟩
/-- raise X('..') -/
@[reducible] def tRaise (pw : PWX) (C : Addr) : TSp := fun _ σ M => ∃ M0, Sub M0 M ∧ pw (.ref C) none σ M0
theorem psraise {T : CXT} {x m : Str} {C : Addr} {j : Nat} {p p2 pos2 : Pos} (air : Air T X H0 pw) (O : Own X.K X.mg x C) (hg : Gl X x := by rfl) (hd : (x == ("__debug__" : Str)) = false := by decide) :
    PSp' X H0 (.Raise (some (.Call (.Name x p) [.Constant (.str m) j p2] [] pos2)) none pos) (tRaise pw C) :=
  psW (air.raise O hg hd) fun D σ H ⟨σp, M, Dp, t, s, m, ⟨M0, sb, u⟩, k⟩ => ⟨σp, M0, t, s, m.sub sb, u⟩
/-- raise X(e) -/
@[reducible] def tRaise1 (pw : PWX) (C : Addr) (te : TEp) : TSp := fun _ σ M => te σ M fun _ M1 => ∃ M0, Sub M0 M1 ∧ pw (.ref C) none σ M0
theorem psraise1 {T : CXT} {x : Str} {C : Addr} {e : Expr} {te : TEp} {p pos pos2 : Pos} (air : Air T X H0 pw) (O : Own X.K X.mg x C) (he : PEp X H0 e te) (hg : Gl X x := by rfl) (hd : (x == ("__debug__" : Str)) = false := by decide) (hs : starEach [e] X.env = (false, eval e X.env) :: starEach [] X.env := by rfl) :
    PSp' X H0 (.Raise (some (.Call (.Name x p) [e] [] pos)) none pos2) (tRaise1 pw C te) :=
  psW (air.raise1 O hg hd he hs) fun D σ H ⟨σp, M, Dp, t, s, m, u, k⟩ => ⟨σp, M, _, t, s, m, u, fun v H1 p M1 t1 m1 r ⟨M0, sb, u1⟩ => ⟨σp, M0, t.trans t1, s.mono t1, m1.sub sb, u1⟩⟩
/-- a def that may raise -/
structure CalleeR (T : CXT) (P : Program) (w : World) (K : Kf) (mg : Str → Option Value) (base : Heap) (k : Nat) (x : Str) (ps : List Str) (psp : PSpec) : Prop where
  ex : ∃ f fd, FnOk P w K mg base T k f fd ps (concF K psp) ∧ mg x = some (.ref f) ∧ PySem.W.keepIn K (.ref f) = true ∧ Binds K fd ps []
theorem FnOk.nz {P : Program} {w : World} {K : Kf} {mg : Str → Option Value} {base : Heap} {k : Nat} {f : Addr} {fd : FuncData} {ps : List Str} {sp : Sp} (F : FnOk P w K mg base (L2N.CX P w) k f fd ps sp) : FnOk P w K mg base (L2.CX P w) k f fd ps sp :=
  ⟨F.len, fun A outer s H args us vs Q E hr he hb hv hs => codeAny_mono (F.run A outer s H args us vs Q E hr he hb hv hs) fun r s' h => by
    cases r with
    | error e => exact cx_nz h
    | ok f => cases f <;> exact h⟩
theorem CalleeR.nz {P : Program} {w : World} {K : Kf} {mg : Str → Option Value} {base : Heap} {k : Nat} {x : Str} {ps : List Str} {psp : PSpec} (h : CalleeR (L2N.CX P w) P w K mg base k x ps psp) : CalleeR (L2.CX P w) P w K mg base k x ps psp := by
  obtain ⟨f, fd, F, r⟩ := h.ex
  exact ⟨⟨f, fd, FnOk.nz F, r⟩⟩
theorem CalleeR.mono {T : CXT} {P : Program} {w : World} {K : Kf} {mg : Str → Option Value} {base : Heap} {j k : Nat} {x : Str} {ps : List Str} {psp : PSpec} (h : CalleeR T P w K mg base j x ps psp) (l : j ≤ k) : CalleeR T P w K mg base k x ps psp := by
  obtain ⟨f, fd, F, r⟩ := h.ex
  exact ⟨⟨f, fd, F.mono l, r⟩⟩
theorem CalleeR.imp {T : CXT} {P : Program} {w : World} {K : Kf} {mg : Str → Option Value} {base : Heap} {k : Nat} {x : Str} {ps : List Str} {psp psp' : PSpec} (h : CalleeR T P w K mg base k x ps psp) (l : ∀ vs M Q E, psp' vs M Q E → psp vs M Q E) : CalleeR T P w K mg base k x ps psp' := by
  obtain ⟨f, fd, F, r⟩ := h.ex
  exact ⟨⟨f, fd, F.imp fun vs H Q E ⟨ps, M, Qp, Ep, h1, h2, h3, h4⟩ => ⟨ps, M, Qp, Ep, h1, h2, l _ _ _ _ h3, h4⟩, r⟩⟩
@[reducible] def tCallR (psp : PSpec) (pw : PWX) (ta : TAp) : TEp := fun σ M Q => ta σ M fun ps M1 => psp ps M1 Q fun cls d M2 => pw cls d σ M2
theorem callR_conc {K : Kf} {psp : PSpec} {ta : TAp} {σ : L2.St} {H : Hp} {Q : VK} (h : concE K H0 (tCallR psp pw ta) σ H Q) : L2.tCallS (concF K psp) (WE (concW K H0 pw)) (concA K H0 ta) σ H Q := by
  obtain ⟨σp, M, Qp, t, s, m, u, k⟩ := h
  refine ⟨σp, M, _, t, s, m, u, fun vs H1 ps M1 t1 m1 rs u1 => ?_⟩
  exact ⟨ps, M1, Qp, _, rs, m1, u1, fun v H2 p M2 t2 => k v H2 p M2 (t1.trans t2), fun cls d H2 M2 t2 m2 z => ⟨σp, M2, t.trans (t1.trans t2), s.mono (t1.trans t2), m2, z⟩⟩
theorem pcallR {T : CXT} {k : Nat} {x : Str} {ps : List Str} {psp : PSpec} {p : Pos} {e : Expr} {es : List Expr} {ta : TAp} (C : CalleeR T X.prog X.w X.K X.mg X.base k x ps psp) (air : Air T X H0 pw) (hr : Room k X.A) (ha : PAp X H0 (e :: es) ta) (hg : Gl X x := by rfl) (hd : (x == ("__debug__" : Str)) = false := by decide)
    (he : starEach (e :: es) X.env = (false, eval e X.env) :: starEach es X.env := by rfl) (hpl : (backTo pos (starEach es X.env)).any (·.1) = false := by rfl) : PEp X H0 (.Call (.Name x p) (e :: es) [] pos) (tCallR psp pw ta) := by
  obtain ⟨f, fd, F, hm, hk, hb⟩ := C.ex
  exact peW (L2.pe_callS F hr hg hm hk hb (fun σ => air.pass σ) ha hd he hpl) fun σ H Q h => callR_conc h
/-! ### a def that raises -/
abbrev defCxR (T : CXT) (P : Program) (w : World) (K : Kf) (mg : Str → Option Value) (base : Heap) (N : List Str) (x : Str) (st : Stmt) (f : Addr) (cdv : Value) (A : Around) (outer : List Env) (s : Shared) (H : Hp) (E : XK) : Cx :=
  cxOf T P w K mg base N x (defScope st) f cdv A outer s H E
theorem okR_z {P : Program} {w : World} {K : Kf} {mg : Str → Option Value} {base : Heap} {k : Nat} {x : Str} {st : Stmt} {N ps : List Str} {psp : PSpec} (h : Here K mg x st ps) (S : FnScope N ps (defScope st)) (len : ∀ vs M Q E, psp vs M Q E → vs.length = ps.length)
    (body : ∀ f cdv A outer s H E (Ep : PXK), Room k (defCxR (L2.CX P w) P w K mg base N x st f cdv A outer s H E).A → Air (L2.CX P w) (defCxR (L2.CX P w) P w K mg base N x st f cdv A outer s H E) H (fun cls d _ M => Ep cls d M) →
      L2.Takes (defCxR (L2.CX P w) P w K mg base N x st f cdv A outer s H E) (concW K H fun cls d _ M => Ep cls d M) →
      PassesOwn (model P w) (defCxR (L2.CX P w) P w K mg base N x st f cdv A outer s H E).A (defCxR (L2.CX P w) P w K mg base N x st f cdv A outer s H E).env (defCxR (L2.CX P w) P w K mg base N x st f cdv A outer s H E).xe →
      ∃ t, PSsp (defCxR (L2.CX P w) P w K mg base N x st f cdv A outer s H E) H (defBody st) t ∧ ∀ vs M Q, psp vs M Q Ep → t (ends Q) (startP N vs) M) :
    CalleeR (L2.CX P w) P w K mg base (k + 1) x ps psp := by
  obtain ⟨f, fd, F, hm, hb⟩ := h.ex
  refine ⟨⟨f, fd, ?_, hm, F.kp, hb⟩⟩
  obtain ⟨oc, od, kV, doc, pm, an, cdv, ct, osl, rfl, lk, hcd⟩ := F.ex
  refine fn_of lk hcd S (fun vs H Q E h => ?_) fun A outer s H vs Q E hr h => ?_
  · obtain ⟨qs, M, Qp, Ep, r, m, u, _⟩ := h
    rw [← r.length]
    exact len _ _ _ _ u
  · obtain ⟨qs, M, Qp, Ep, r, m, u, k1, k2⟩ := h
    have tk : L2.Takes (defCxR (L2.CX P w) P w K mg base N x st f cdv A outer s H E) (concW K H fun cls d _ M => Ep cls d M) := (L2.takes_of (E := E) rfl rfl rfl rfl).imp fun c d σ H' z => by
      obtain ⟨σp, M', t', _, m', q⟩ := z
      exact k2 c d H' M' t' m' q
    obtain ⟨t, d, b⟩ := body f cdv A outer s H E Ep hr (Air.z rfl tk) tk (L2.passes_of rfl)
    refine ⟨_, d, startP N qs, M, ends Qp, Tk.refl _ _, startP_rel r N, m, b _ _ _ u, ⟨fun σ' H' σp' M' t1 s1 m1 q => ?_, fun v H' p M' t1 m1 r1 q => ?_, fun _ _ _ _ _ _ _ z => z.elim, fun _ _ _ _ _ _ _ z => z.elim⟩⟩
    · obtain ⟨M0, sb, q⟩ := q
      exact k1 _ _ _ _ t1 (m1.sub sb) .non q
    · obtain ⟨M0, sb, q⟩ := q
      exact k1 _ _ _ _ t1 (m1.sub sb) r1 q
theorem okR_n {P : Program} {w : World} {K : Kf} {mg : Str → Option Value} {base : Heap} {k : Nat} {x : Str} {st : Stmt} {N ps : List Str} {psp : PSpec} (h : Here K mg x st ps) (S : FnScope N ps (defScope st)) (len : ∀ vs M Q E, psp vs M Q E → vs.length = ps.length)
    (body : ∀ f cdv A outer s H E (Ep : PXK), Room k (defCxR (L2N.CX P w) P w K mg base N x st f cdv A outer s H E).A → Air (L2N.CX P w) (defCxR (L2N.CX P w) P w K mg base N x st f cdv A outer s H E) H (fun cls d _ M => Ep cls d M) →
      PassesOwn (model P w) (defCxR (L2N.CX P w) P w K mg base N x st f cdv A outer s H E).A (defCxR (L2N.CX P w) P w K mg base N x st f cdv A outer s H E).env (defCxR (L2N.CX P w) P w K mg base N x st f cdv A outer s H E).xe →
      ∃ t, PSsp (defCxR (L2N.CX P w) P w K mg base N x st f cdv A outer s H E) H (defBody st) t ∧ ∀ vs M Q, psp vs M Q Ep → t (ends Q) (startP N vs) M) :
    CalleeR (L2N.CX P w) P w K mg base (k + 1) x ps psp := by
  obtain ⟨f, fd, F, hm, hb⟩ := h.ex
  refine ⟨⟨f, fd, ?_, hm, F.kp, hb⟩⟩
  obtain ⟨oc, od, kV, doc, pm, an, cdv, ct, osl, rfl, lk, hcd⟩ := F.ex
  refine fn_of lk hcd S (fun vs H Q E h => ?_) fun A outer s H vs Q E hr h => ?_
  · obtain ⟨qs, M, Qp, Ep, r, m, u, _⟩ := h
    rw [← r.length]
    exact len _ _ _ _ u
  · obtain ⟨qs, M, Qp, Ep, r, m, u, k1, k2⟩ := h
    have tk : L2N.Takes (defCxR (L2N.CX P w) P w K mg base N x st f cdv A outer s H E) (concW K H fun cls d _ M => Ep cls d M) := (L2N.takes_of (E := E) rfl rfl rfl rfl).imp fun c d σ H' z => by
      obtain ⟨σp, M', t', _, m', q⟩ := z
      exact k2 c d H' M' t' m' q
    obtain ⟨t, d, b⟩ := body f cdv A outer s H E Ep hr (Air.n rfl tk) (L2.passes_of rfl)
    refine ⟨_, d, startP N qs, M, ends Qp, Tk.refl _ _, startP_rel r N, m, b _ _ _ u, ⟨fun σ' H' σp' M' t1 s1 m1 q => ?_, fun v H' p M' t1 m1 r1 q => ?_, fun _ _ _ _ _ _ _ z => z.elim, fun _ _ _ _ _ _ _ z => z.elim⟩⟩
    · obtain ⟨M0, sb, q⟩ := q
      exact k1 _ _ _ _ t1 (m1.sub sb) .non q
    · obtain ⟨M0, sb, q⟩ := q
      exact k1 _ _ _ _ t1 (m1.sub sb) r1 q
end
end PL

set_option Elab.async false
set_option linter.all false
set_option maxRecDepth 100000
set_option maxHeartbeats 4000000
/-! PL24: try .. except X as e; try .. except X: raise Y(..) from None; isinstance of what was caught. -/
namespace PL
open PySem L2
theorem RelS.unset {K : Kf} {H : Hp} {v : Option V} : ∀ {σ τ} (i : Nat), RelS K H σ τ → RelS K H (σ.set i none) (τ.set i v)
  | _, _, _, .nil => .nil
  | _, _, 0, .no t => .no t
  | _, _, 0, .yes _ t => .no t
  | _, _, i + 1, .no t => .no (RelS.unset i t)
  | _, _, i + 1, .yes q t => .yes q (RelS.unset i t)
section
variable {X : Cx} {H0 : Hp}
@[reducible] def tTryAs (K : Kf) (i : Nat) (c : Value) (tb : PWX → TSp) (ts : Addr → Value → Option Addr → TSp) : TSp := fun D σ M =>
  tb (fun cls d σ' M' => PySem.W.exmOne K cls c = some true ∧ ∀ a, M' a = none → ts a cls d { nx := fun σ2 M2 => D.nx (σ2.set i none) M2, rt := D.rt, bk := fun σ2 M2 => D.bk (σ2.set i none) M2, ct := fun σ2 M2 => D.ct (σ2.set i none) M2 } (σ'.set i (some (.ref a))) M') D σ M
theorem pstryas {x n : Str} {c : Value} {body suite : List Stmt} {b₀ : Stmt} {np pos pos' : Pos} {tb : PWX → TSp} {ts : Addr → Value → Option Addr → TSp} (i : Nat) (hk : X.calm = true) (hs : X.stack = X.env :: X.outer) (hf : X.env.frame = some X.env.locals) (hN : X.N.Nodup)
    (hc : Names X x c)
    (hb : ∀ (H1 : Hp) (pw : PWX) (pn : List (Addr × Obj)) (xe : Value → Shared → Prop), Air (L2.CX X.prog X.w) (X.tr pn xe) H1 pw → PassesOwn (model X.prog X.w) X.A X.env xe → PSsp (X.tr pn xe) H1 body (tb pw))
    (hsu : ∀ (a : Addr) (oe : Obj) (cls : Value) (d : Option Addr) (pn : List (Addr × Obj)), Zc cls d oe → (∃ vs, oe.data = .fields vs) → PSsp (X.suite a ((a, oe) :: pn)) H0 (b₀ :: suite) (ts a cls d))
    (hi : X.N[i]? = some n := by rfl) (hln : X.env.kindOf n = some .local := by rfl) :
    PSp' X H0 (.Try body [.ExceptHandler (some (.Name x np)) (some n) (b₀ :: suite) pos'] [] [] pos) (tTryAs X.K i c tb ts) := by
  refine psW (L2.ps_try_as (tb := fun W D σ H => ∃ H1 pw, (∀ c d σ H, concW X.K H1 pw c d σ H → W c d σ H) ∧ concS X.K H1 (tb pw) D σ H) (ts := fun a cls d => concS X.K H0 (ts a cls d)) (Wout := fun _ _ _ _ => False) hs hf hN hi hln hc (fun u s' x => ?_) (fun W pn xe tk po => ⟨fun pins s σ H D I h => ?_⟩) (fun a oe cls d pn hz hv => hsu a oe cls d pn hz hv)) fun D σ H ⟨σp, M, Dp, t, s, m, u, k⟩ => ?_
  · obtain ⟨a, B, sI, pins, σ, H, cls, d, h⟩ := x
    exact h.2.2.2.2.2.2.2.2.elim
  · obtain ⟨H1, pw, imp, h⟩ := h
    exact (hb H1 pw pn xe (Air.z (X := X.tr pn xe) hk (tk.imp imp)) po).run pins s σ H D I h
  · refine ⟨H, _, ?_, σp, M, Dp, Tk.refl _ _, s, m, u, k⟩
    intro cls d σ1 H1 ⟨σp1, M1, t1, s1, m1, q1, q2⟩
    refine ⟨true, q1, fun _ a na => ?_, fun z => nomatch z⟩
    refine ⟨σp1.set i (some (.ref a)), M1, _, t.trans t1, s1.set (.ref a) i, m1, q2 a (m1.fresh na), ⟨fun σ2 H2 σp2 M2 t2 s2 m2 z => ?_, fun v H2 p M2 t2 => k.rt v H2 p M2 (t1.trans t2), fun σ2 H2 σp2 M2 t2 s2 m2 z => ?_, fun σ2 H2 σp2 M2 t2 s2 m2 z => ?_⟩⟩
    · exact k.nx _ _ _ _ (t1.trans t2) (s2.unset i) m2 z
    · exact k.bk _ _ _ _ (t1.trans t2) (s2.unset i) m2 z
    · exact k.ct _ _ _ _ (t1.trans t2) (s2.unset i) m2 z
/-! ### raise Y(..) from None -/
theorem pmk5_own {x m : Str} {C : Addr} {j : Nat} {p p2 pos : Pos} (O : Own X.K X.mg x C) (hg : Gl X x) (hdb : (x == ("__debug__" : Str)) = false) : L2H.PMk5 X (.Call (.Name x p) [.Constant (.str m) j p2] [] pos) (fun _ H Q => Q (.ref C) none H) := by
  intro pins s σ H Q I h
  refine wpAny_Call_Name_kw (ld_glob I hg O.g ?_ hdb)
  have ha : PA X [.Constant (.str m) j p2] (L2.tCons (L2.tC (.str m)) L2.tNil) := L2.pa_cons L2.pe_str L2.pa_nil
  refine PySem.W.callWith_K (h₀ := X.base) I.ok.mod.kin O.kp (thn (ha.run pos pins s σ H (fun vs H1 => vs = [V.str m] ∧ H = H1) I ⟨rfl, rfl⟩) fun us s1 hh => ?_)
  obtain ⟨vs, H1, I1, r1, ev, eH⟩ := hh
  subst ev
  rw [← eH] at I1
  refine ⟨I1.kIn, ?_⟩
  cases r1 with
  | cons ru rn =>
    rename_i u us'
    cases rn
    show wpAny _ _ (call (.ref C) [u]) _ _ _
    obtain ⟨bm, N, nm, qn, bs, hdct, sn, sub, ab, col, dd, k0, k1, k2, k3, k5, mN, hC, hN, hni, T⟩ := L2.exc_obj I1.kIn O.q
    refine wpAny_call_exc_subT PySem.F.excBase_ValueError T hC hN hni (fun h' e hm => ?_) (by show 1 ≤ sizeLine; rw [sizeLine_eq]; omega)
    exact L2H.mk_of5 I1 hm (L2.raises_own O.sb O.ty) h (I1.hok.gone hm.new)
@[reducible] def tTryRe (K : Kf) (c : Value) (C : Addr) (tb : PWX → TSp) (pw : PWX) : TSp := fun D σ M => tb (fun cls d σ' M' => PySem.W.exmOne K cls c = some true ∧ pw (.ref C) none σ' M') D σ M
theorem pstryre {x y msg : Str} {c : Value} {C : Addr} {body : List Stmt} {j j2 : Nat} {np pos pos' p1 p2 p3 p4 p5 : Pos} {tb : PWX → TSp} {pw : PWX} (hk : X.calm = true) (hs : X.stack = X.env :: X.outer) (hf : X.env.frame = some X.env.locals)
    (hpa : ∀ hd : Option Value, PassesOwnAt (model X.prog X.w) (X.A.mark hd) X.A X.env X.xe) (tk : L2.Takes X (concW X.K H0 pw)) (hc : Names X x c) (O : Own X.K X.mg y C)
    (hb : ∀ (H1 : Hp) (pw : PWX) (pn : List (Addr × Obj)) (xe : Value → Shared → Prop), Air (L2N.CX X.prog X.w) (X.tr pn xe) H1 pw → PassesOwn (model X.prog X.w) X.A X.env xe → PSsp (X.tr pn xe) H1 body (tb pw))
    (hg : Gl X y := by rfl) (hd : (y == ("__debug__" : Str)) = false := by decide) :
    PSp' X H0 (.Try body [.ExceptHandler (some (.Name x np)) none [.Raise (some (.Call (.Name y p1) [.Constant (.str msg) j p2] [] p3)) (some (.Constant .none j2 p4)) p5] pos'] [] [] pos) (tTryRe X.K c C tb pw) := by
  refine psW (L2H.ps_try_onlyX (tb := fun W D σ H => ∃ H1 pw, (∀ c d σ H, concW X.K H1 pw c d σ H → W c d σ H) ∧ concS X.K H1 (tb pw) D σ H) (ts := fun a cls d => fun _ σ H => concW X.K H0 pw (.ref C) none σ H) hs hf hc hpa tk (fun W pn xe tkn tkp po => ⟨fun pins s σ H D I h => ?_⟩) (fun a oe cls d pn hz hv tkS hot => ?_)) fun D σ H ⟨σp, M, Dp, t, s, m, u, k⟩ => ?_
  · obtain ⟨H1, pw, imp, h⟩ := h
    exact (hb H1 pw pn xe (Air.n (X := X.tr pn xe) hk (tkn.imp imp)) po).run pins s σ H D I h
  · exact L2.pss_one (L2H.ps_raiseHN hot tkS (pmk5_own (X := L2H.suiteX X a ((a, oe) :: pn)) O hg hd))
  · refine ⟨H, _, ?_, σp, M, Dp, Tk.refl _ _, s, m, u, k⟩
    intro cls d σ1 H1 ⟨σp1, M1, t1, s1, m1, q1, q2⟩
    exact ⟨true, q1, fun _ a na => ⟨σp1, M1, t.trans t1, s1, m1, q2⟩, fun z => nomatch z⟩
/-! ### isinstance of what was caught -/
inductive ClsPV : PV → Value → Prop
  | ref (a : Addr) : ClsPV (.ref a) (.ref a)
  | ty (n : String) : ClsPV (.ty n) (.type n)
inductive ClsPVs : List PV → List Value → Prop
  | nil : ClsPVs [] []
  | cons {p v ps vs} : ClsPV p v → ClsPVs ps vs → ClsPVs (p :: ps) (v :: vs)
theorem ClsPV.rep {K : Kf} {H : Hp} {p : PV} {c : Value} (h : ClsPV p c) {v : V} (r : Rep K H p v) : ∀ u, RelV v u → u = c := by
  cases h with
  | ref a => cases r; exact fun u z => z
  | ty n => cases r; exact fun u z => z
theorem ClsPVs.reps {K : Kf} {H : Hp} {ps : List PV} {cs : List Value} (h : ClsPVs ps cs) : ∀ {vs : List V}, Reps K H ps vs → ∀ {us : List Value}, Vals vs us → us = cs := by
  induction h with
  | nil => intro vs r us z; cases r; cases z; rfl
  | cons hc _ ih =>
    intro vs r us z
    cases r with
    | cons r1 rr =>
      cases z with
      | cons z1 zz => rw [hc.rep r1 _ z1, ih rr zz]
/-- isinstance(e, c) and isinstance(e, (c1, ..)), e the exception that the suite holds -/
def isExP (K : Kf) (a : Addr) (cls : Value) (d : Option Addr) : RCp := fun xs M Q => ∃ (D : Addr) (b : Bool), cls = .ref D ∧ d = none ∧ ExcC K D ∧ (match xs with
  | [.ref a', .tup cs] => a' = a ∧ ∃ us, ClsPVs cs us ∧ PySem.W.kitAny K (.ref D) us = some b
  | [.ref a', c] => a' = a ∧ ∃ u, ClsPV c u ∧ PySem.W.kitOne K (.ref D) u = some b
  | _ => False) ∧ Q (.bl b) M
def rIsEx (K : Kf) (D a : Addr) : List V → Hp → VK → Prop := fun xs H Q => ∃ (tp : Addr) (cs : List V) (us : List Value) (b : Bool), xs = [.ref a, .ref tp] ∧ SqT K H tp cs ∧ (∀ ws, Vals cs ws → ws = us) ∧ PySem.W.kitAny K (.ref D) us = some b ∧ Q (.bl b) H
theorem call_isEx {a D : Addr} {oe : Obj} {pn : List (Addr × Obj)} (C : ExcC X.K D) (hz : Zc (.ref D) none oe) (hf : ∃ vs, oe.data = .fields vs) : CallR (X.suite a ((a, oe) :: pn)) (.builtin "isinstance") (rIsEx X.K D a) := by
  rintro pins s σ H xs us Q I r ⟨tp, cs, ws, b, rfl, there, hcv, e, q⟩
  obtain ⟨ux, ut, rfl, rx, rt⟩ := vals2 r
  cases (show ut = Value.ref tp from rt)
  cases (show ux = Value.ref a from rx)
  obtain ⟨its, rv, ⟨⟨oc, od, dt, sl⟩, at_tp, hc, n, hd⟩, _⟩ := I.tuple there
  have e2 := hcv _ rv
  simp only at hc hd
  subst hc hd
  obtain ⟨hget, _⟩ := I.pin (a, oe) (List.mem_append.mpr (.inl List.mem_cons_self))
  obtain ⟨vs, hv⟩ := hf
  have J : PySem.W.InstAt s.heap a oe D none := by
    obtain ⟨oc, od, oda, osl⟩ := oe
    obtain ⟨h1, h2⟩ := hz
    dsimp only at h1 h2 hv
    subst h1 h2 hv
    exact ⟨hget, rfl, rfl, trivial⟩
  exact PySem.W.kia_tup (PySem.W.handS_kitx_exc C.hg C.hk C.hs C.hd C.ha C.hn C.ht C.hm) I.kIn J at_tp (by rw [e2]; exact e) (fun z => nomatch z) fun tk => ⟨.bl b, H, I.tok tk, rfl, q⟩
theorem cIsEx {a : Addr} {cls : Value} {d : Option Addr} {oe : Obj} {pn : List (Addr × Obj)} (hz : Zc cls d oe) (hf : ∃ vs, oe.data = .fields vs) : CallP (X.suite a ((a, oe) :: pn)) (.builtin "isinstance") (isExP X.K a cls d) := by
  refine ⟨fun xs H Q => ∃ D, cls = .ref D ∧ d = none ∧ ExcC X.K D ∧ (rIsE X.K D a xs H Q ∨ rIsEx X.K D a xs H Q), ?_, fun xs H ps M Q Qp rs m u k => ?_⟩
  · rintro pins s σ H xs us Q I r ⟨D, rfl, rfl, C, h | h⟩
    · exact L2.call_isE C hz hf pins s σ H xs us Q I r h
    · exact call_isEx C hz hf pins s σ H xs us Q I r h
  · obtain ⟨D, b, e1, e2, C, u, q⟩ := u
    refine ⟨D, e1, e2, C, ?_⟩
    have go : Q (.bl b) H := k _ _ _ _ (Tk.refl _ _) m (.bl _) q
    cases rs with
    | nil => exact u.elim
    | cons r rr => cases rr with
      | nil => cases r <;> exact u.elim
      | cons r2 rr2 => cases rr2 with
        | cons _ _ => cases r <;> cases r2 <;> exact u.elim
        | nil =>
          cases r with
          | ref a' =>
            cases r2 with
            | tup h r3 =>
              obtain ⟨rfl, us, h1, h2⟩ := u
              exact .inr ⟨_, _, us, b, rfl, h.t, fun ws z => h1.reps r3 z, h2, go⟩
            | ref c => obtain ⟨rfl, us, h1, h2⟩ := u; exact .inl ⟨_, us, b, rfl, h1.rep (K := X.K) (H := H) (.ref c), h2, go⟩
            | ty c => obtain ⟨rfl, us, h1, h2⟩ := u; exact .inl ⟨_, us, b, rfl, h1.rep (K := X.K) (H := H) (.ty c), h2, go⟩
            | non => obtain ⟨rfl, us, h1, h2⟩ := u; cases h1
            | bl c => obtain ⟨rfl, us, h1, h2⟩ := u; cases h1
            | int c => obtain ⟨rfl, us, h1, h2⟩ := u; cases h1
            | str c => obtain ⟨rfl, us, h1, h2⟩ := u; cases h1
          | _ => cases r2 <;> exact u.elim
theorem pglobC {x : Str} {C : Addr} {pos : Pos} (hg : Gl X x) (hm : X.mg x = some (.ref C)) (hd : (x == ("__debug__" : Str)) = false := by decide) : PEp X H0 (.Name x pos) (tc (.ref C)) := pglob hg hm (v := .ref C) rfl (fun _ => .ref C) hd
end
end PL

set_option Elab.async false
set_option linter.all false
set_option maxRecDepth 100000
set_option maxHeartbeats 4000000
/-! PL25: == and != of deep data, kept whole. -/
namespace PL
open PySem L2
theorem eqD_txt {K : Kf} {x y : PV} {M : PHp} {Q : Bool → Prop} (hx : TxtD 40 x) (hy : TxtD 40 y) (q : ∀ b, (b = true ↔ x = y) → Q b) : eqD K x y M Q :=
  eqD_fl hx.pure.dp hy.pure.dp ⟨hx.pure.plain, Nat.le_trans hx.pure.depth (by decide)⟩ ⟨hy.pure.plain, Nat.le_trans hy.pure.depth (by decide)⟩ (q _ (TxtD.eqv hx hy))
def eqDP (K : Kf) : R2p := fun x y M Q => TxtD 40 x ∧ TxtD 40 y ∧ ∀ b, (b = true ↔ x = y) → Q (.bl b) M
def neDP (K : Kf) : R2p := fun x y M Q => TxtD 40 x ∧ TxtD 40 y ∧ ∀ b, (b = true ↔ x ≠ y) → Q (.bl b) M
theorem eqDP_eq {K : Kf} {x y : PV} {M : PHp} {Q : PVK} (h : eqDP K x y M Q) : eqP K x y M Q := by
  obtain ⟨h1, h2, q⟩ := h
  unfold eqP
  split
  · exact q _ (by simp)
  · exact q _ (by simp)
  · exact q _ (by simp)
  · exact eqD_txt h1 h2 q
theorem neDP_ne {K : Kf} {x y : PV} {M : PHp} {Q : PVK} (h : neDP K x y M Q) : neP K x y M Q := by
  obtain ⟨h1, h2, q⟩ := h
  unfold neP
  split
  · exact q _ (by simp)
  · exact q _ (by simp)
  · exact q _ (by simp)
  · exact eqD_txt h1 h2 fun b hb => q _ (by cases b <;> simp_all)
section
variable {X : Cx} {K : Kf}
theorem opEqD (hu : X.A.units + 64 < cLine) (hK : X.K = K := by rfl) : OpP X (compareOp .Eq) (eqDP K) := by
  subst hK
  obtain ⟨r, h1, h2⟩ := opEq (X := X) hu
  exact ⟨r, h1, fun x y H px py M Q Qp rx ry m u k => h2 x y H px py M Q Qp rx ry m (eqDP_eq u) k⟩
theorem opNeD (hu : X.A.units + 64 < cLine) (hK : X.K = K := by rfl) : OpP X (compareOp .NotEq) (neDP K) := by
  subst hK
  obtain ⟨r, h1, h2⟩ := opNe (X := X) hu
  exact ⟨r, h1, fun x y H px py M Q Qp rx ry m u k => h2 x y H px py M Q Qp rx ry m (neDP_ne u) k⟩
end
end PL

set_option Elab.async false
set_option linter.all false
set_option maxRecDepth 100000
set_option maxHeartbeats 4000000
/-! PL26: x in a text; a module's own text. -/
namespace PL
open PySem L2
/-- i stands in j -/
def hasS (i j : Str) : Bool := !(Builtin.Str.occurrences j i 0 j.length 1).isEmpty
def inSP : R2p := fun x y M Q => match x, y with
  | .str i, .str j => Q (.bl (hasS i j)) M
  | _, _ => False
def notInSP : R2p := fun x y M Q => match x, y with
  | .str i, .str j => Q (.bl (!hasS i j)) M
  | _, _ => False
section
variable {X : Cx} {H0 : Hp}
theorem opInS : OpP X (compareOp .In) inSP := by
  refine ⟨_, op_in_str, fun x y H px py M Q Qp rx ry m u k => ?_⟩
  cases rx with
  | str i => cases ry with
    | str j => exact ⟨i, j, rfl, rfl, k _ _ _ _ (Tk.refl _ _) m (.bl _) u⟩
    | _ => exact u.elim
  | _ => cases ry <;> exact u.elim
theorem opNotInS : OpP X (compareOp .NotIn) notInSP := by
  refine ⟨_, op_notIn_str, fun x y H px py M Q Qp rx ry m u k => ?_⟩
  cases rx with
  | str i => cases ry with
    | str j => exact ⟨i, j, rfl, rfl, k _ _ _ _ (Tk.refl _ _) m (.bl _) u⟩
    | _ => exact u.elim
  | _ => cases ry <;> exact u.elim
theorem pglobS {x z : Str} {pos : Pos} (hg : Gl X x) (hm : ∃ t, X.mg x = some (.str z t)) (hd : (x == ("__debug__" : Str)) = false := by decide) : PEp X H0 (.Name x pos) (tc (.str z)) := by
  obtain ⟨t, hm⟩ := hm
  exact pglob hg hm (v := .str z) ⟨t, rfl⟩ (fun _ => .str z) hd
end
end PL

set_option Elab.async false
set_option linter.all false
set_option maxRecDepth 100000
set_option maxHeartbeats 4000000
/-! PL27: enumerate over a list or a tuple. -/
namespace PL
open PySem PySem.Spec L2 PyProof.Rows
set_option maxHeartbeats 4000000 in
theorem meets_enumB {v : Value} {o : Obj} {H : Heap → Prop} (B : Begins v o H) :
    Meets (Builtin.«enumerate.__new__» ⟨[.type "enumerate", v], []⟩) (fun _ R s => H s.heap ∧
      R (.ok (.ret (.ref (s.heap.push o).objs.size))) { s with heap := (s.heap.push o).push { cls := .type "enumerate", data := .fields #[.none, .bool false, .ref s.heap.objs.size, rawInt 0, .none, .none] } }) :=
  .of_wp fun prog w A R s h => by
    obtain ⟨hp, g, d, tk, os⟩ := s; obtain ⟨h1, h⟩ := h
    have hsub := sub_enumerate
    have q1 : ∀ {A' : Around} {E : Value → Shared → Prop} {Q : Value → Shared → Prop}, Q (.ref hp.objs.size) ⟨hp.push o, g, d, tk, os⟩ → wpAny (model prog w) A' (pyIter v) Q E ⟨hp, g, d, tk, os⟩ :=
      fun q => B.iter prog w _ _ ⟨hp, g, d, tk, os⟩ _ h1 q
    wp_walk using q1
    refine wpAny_stack_any fun st => wpAny_pure ?_
    split
    · rename_i c _ _ _ _ _
      cases (c == Value.type "enumerate")
      · wp_walk using q1
        exact ⟨_, rfl, h⟩
      · wp_walk using q1
        exact ⟨_, rfl, h⟩
    · wp_walk using q1
      exact ⟨_, rfl, h⟩
section
variable {prog : Program} {w : World} {A : Around} {E : Value → Shared → Prop} {s : Shared}
theorem call_enumB {v : Value} {o : Obj} {H : Heap → Prop} {Q : Value → Shared → Prop} (B : Begins v o H) (h1 : H s.heap)
    (h : ∀ h', IsEnum h' (s.heap.objs.size + 1) s.heap.objs.size 0 .none → h'.get? s.heap.objs.size = some o → h'.objs.size = s.heap.objs.size + 2 →
      (∀ b o, s.heap.get? b = some o → h'.get? b = some o) → Q (.ref (s.heap.objs.size + 1)) { s with heap := h' }) :
    wpAny (model prog w) A (call (.type "enumerate") [v]) Q E s := by
  refine callType_new F.called_enumerate (by decide) (F.typeCall_enumerate_1 _) (F.newCall_enumerate_1 _) (fun obj => F.args_object_init_2 obj _) F.entry_enumerate_new
    (meets_enumB B) ⟨h1, ?_⟩
  have hz : (s.heap.push o).objs.size = s.heap.objs.size + 1 := Heap.size_push ..
  show _ ∧ _
  rw [hz]
  have he : IsEnum ((s.heap.push o).push
      { cls := .type "enumerate", data := .fields #[.none, .bool false, .ref s.heap.objs.size, rawInt 0, .none, .none] }) (s.heap.objs.size + 1) s.heap.objs.size 0 .none := by
    have := Heap.get?_push_size (s.heap.push o)
      (o := { cls := .type "enumerate", data := .fields #[.none, .bool false, .ref s.heap.objs.size, rawInt 0, .none, .none] }) rfl
    rw [hz] at this; exact this
  refine ⟨⟨_, he, rfl⟩, h _ he (Heap.get?_push_of_some _ (Heap.get?_push_size _ B.free)) (by rw [Heap.size_push, hz]) fun b o x => Heap.get?_push_of_some _ (Heap.get?_push_of_some _ x)⟩
end
section
variable {K : Kf} {X : Cx} {H0 : Hp} {pos : Pos}
/-- the places that are walked: a list or a tuple -/
def enumIt (Sq : Hp → List V → Prop) : It :=
  ⟨fun i H => ∃ (xs : List V) (x : V), Sq H xs ∧ xs[i]? = some x,
    fun i H v H' => ∃ (T : Addr) (ob : Obj) (x : V), v = .ref T ∧ H T = none ∧ ob.dict = none ∧ H' = upd H T (.frz ob (.tup [.int (i : Nat), x])) ∧ ∀ xs, Sq H xs → xs[i]? = some x,
    fun i H => ∃ xs : List V, Sq H xs ∧ xs.length = i⟩
theorem turn_en {P : Program} {w : World} {elts : List Expr} {kk : Nat} {tpos : Pos} {a e it : Addr} {Sq : Hp → List V → Prop} {Si : Nat → Heap → Prop} {Sa : Array Value → Heap → Prop} (hne : e ≠ it)
    (hio : ∀ i h, Si i h → ∃ o, h.get? it = some o ∧ ∀ v, o.data ≠ .cell v) (hik : ∀ i h h', Si i h → (∀ o, h.get? it = some o → h'.get? it = some o) → Si i h')
    (hread : ∀ {X : Cx} {pins : List (Addr × Obj)} {σ : L2.St} {H : Hp} {s : Shared} {xs : List V}, X.K = K → Inv X pins σ H s → Sq H xs → ∃ its : List Value, Vals xs its ∧ Sa its.toArray s.heap ∧ ∀ ys, Sq H ys → ys = xs)
    (hD : ∀ (A : Around) (items : Array Value), A.handled = none → Draws P w A it [it, a] items.size (fun i v => items[i]? = some v) (fun i h => Si i h ∧ Sa items h)) (hea : ∀ its h o, Sa its h → h.get? e = some o → o.cls = .type "enumerate" → e ≠ a) :
    Turn P w K (.Tuple elts kk tpos) (enumIt Sq) [e, it] e (fun i h => (∃ old, IsEnum h e it ((i : Nat) : Int) old) ∧ Si i h) where
  mem := by simp
  obj := fun i h st b hb => by
    obtain ⟨⟨old, he⟩, hi⟩ := st
    have e' : b = e ∨ b = it := by simpa using hb
    rcases e' with z | z
    · rw [z]; exact ⟨_, he, fun v q => nomatch q⟩
    · rw [z]; exact hio i h hi
  keep := fun i h h' st k => let ⟨⟨old, he⟩, hi⟩ := st; ⟨⟨old, k e (by simp) _ he⟩, hik i h h' hi fun o q => k it (by simp) o q⟩
  item := by
    intro X hP hw hK hc i pins s σ H E I hf st hg
    subst hP hw
    obtain ⟨⟨old, he⟩, hit⟩ := st
    obtain ⟨xs, x, hq, hx⟩ := hg
    obtain ⟨its, rv, p, inj⟩ := hread hK I hq
    obtain ⟨u, hu, ru⟩ := rv.get hx
    have hel : e < s.heap.objs.size := Heap.lt_size he
    have hil : it < s.heap.objs.size := by obtain ⟨_, q, _⟩ := hio _ _ hit; exact Heap.lt_size q
    have hil2 : i < its.toArray.size := by have := (List.getElem?_eq_some_iff.mp hu).1; simpa using this
    have hea' := hea _ _ _ p he rfl
    refine wpAny_pyNext_enum_itemC (hD X.A.in1 its.toArray (I.ok.hd hc)) he ⟨hit, p⟩ hil2 hne (by simp [hne, hea']) fun x' h' tk hx' ho hit' hT hsz hk => ?_
    have ex : x' = u := by
      have h2 : its[i]? = some x' := by simpa using hx'
      rw [hu] at h2; exact (Option.some.inj h2).symm
    subst ex
    refine ⟨_, rfl, wpAny_letOwnedTupleGo_enum (s := { s with heap := h', toks := tk + 1 }) ho fun h'' he' sb => ?_⟩
    have there : h''.get? s.heap.objs.size = some { cls := .type "tuple", data := .seq #[.int i tk, x'] } := (sb.2 _ (Nat.ne_of_gt hel)).trans hT
    refine ⟨.ref s.heap.objs.size, _, I.turnedNew (t' := tk + 1) (ch := [e, it]) (fun b ob hb q => (sb.2 b (fun z => hb (by simp [z]))).trans (hk b ob (fun z => hb (by simp [z])) (fun z => hb (by simp [z])) q)) hf (Nat.le_refl _) (pair_ok (x := .int (i : Nat)) there ⟨tk, rfl⟩ ru), rfl,
      ⟨_, _, x, rfl, I.hok.fresh (Nat.le_refl _), rfl, rfl, fun ys hy => by rw [inj ys hy]; exact hx⟩, ⟨⟨x', ?_⟩, hik _ _ _ hit'.1 fun o q => (sb.2 it (Ne.symm hne)).trans q⟩, fp_pair hf fun c hc => ?_⟩
    · have e1 : ((i + 1 : Nat) : Int) = (i : Int) + 1 := by omega
      rw [e1]; exact he'
    · have e' : c = e ∨ c = it := by simpa using hc
      rcases e' with z | z
      · rw [z]; exact hel
      · rw [z]; exact hil
  done := by
    intro X hP hw hK hc i pins s σ H E I hf st hg
    subst hP hw
    obtain ⟨⟨old, he⟩, hit⟩ := st
    obtain ⟨xs, hq, hx⟩ := hg
    obtain ⟨its, rv, p, inj⟩ := hread hK I hq
    obtain ⟨f0, f1, f2, f3, f4, f5⟩ := hf it (by simp)
    have hl := rv.length
    have e1 : its.toArray.size = i := by simp only [List.size_toArray]; omega
    refine wpAny_pyNext_enum_endD (hD X.A.in1 its.toArray (I.ok.hd hc)) he (by rw [e1]; exact ⟨hit, p⟩) fun h' eb => ⟨rfl, I.turned (t' := s.toks) (fun b o hb q => eb b o hb q) f0 f1 f3 f4 f5⟩
  self := fun A i s Q E st h => let ⟨⟨_, he⟩, _⟩ := st; wpAny_pyIter_enum he h
def iEnX (K : PySem.W.Frag) (ta : TA) : TI := fun σ H R => ta σ H fun vs H1 => ∃ a xs, vs = [.ref a] ∧ ((SqL K H1 a xs ∧ R (enumIt fun H => SqL K H a) H1) ∨ (SqT K H1 a xs ∧ R (enumIt fun H => SqT K H a) H1))
theorem two_fp {pins : List (Addr × Obj)} {σ : L2.St} {H : Hp} {s : Shared} (I : Inv X pins σ H s) : ∀ c, c ∈ [s.heap.objs.size + 1, s.heap.objs.size] → FpOk X pins H c := fun c hc => by
  have hle : s.heap.objs.size ≤ c := by
    simp only [List.mem_cons, List.not_mem_nil, or_false] at hc
    omega
  exact I.fpOk hle (I.hok.fresh hle)
theorem pi_enX {e : Expr} {ta : TA} {p tpos : Pos} {elts : List Expr} {kk : Nat} (hg : Gl X "enumerate") (hm : X.mg "enumerate" = none) (ha : PA X [e] ta) (hs : starEach [e] X.env = [(false, eval e X.env)] := by rfl) :
    PI X (.Tuple elts kk tpos) (.Call (.Name "enumerate" p) [e] [] pos) (iEnX X.K ta) := by
  refine ⟨fun pins s σ H R I h => ?_⟩
  refine Call_ (ld_blt I hg hm PyProof.Rows.boot_enumerate (PyProof.Rows.callWith_type1 (thn (ha.run pos pins s σ H _ I h) fun us s1 ⟨vs, H1, I1, r1, q1⟩ => ?_) hs rfl))
  obtain ⟨a, xs, ex, q1⟩ := q1
  subst ex
  cases r1 with
  | cons r rr =>
    cases rr
    cases r
    rcases q1 with ⟨hq, q⟩ | ⟨hq, q⟩
    · obtain ⟨its, rv, p', hz⟩ := I1.list hq
      refine call_enumB (begins_list a its.toArray) p'.isList fun h' he hit hsz hk => wpAny_pyIter_enum he ?_
      refine ⟨s1.heap.objs.size + 1, [s1.heap.objs.size + 1, s1.heap.objs.size], _, _, H1, rfl, I1.kept (t' := s1.toks) hk,
        turn_en (a := a) (Si := fun i h => h.IsListIter s1.heap.objs.size a i) (Sa := fun its h => h.IsList a its) (Nat.succ_ne_self _) (fun i h x => ?_) (fun i h h' x k => x.at fun o e => k o e) (fun {X pins σ H s xs} hK I hq => ?_) (fun A items hh => Draws.list hh _ _ (Nat.ne_of_lt p'.lt) items) (fun its h o x e hc z => ?_), ⟨⟨.none, he⟩, ⟨_, hit, rfl, rfl⟩⟩, two_fp I1, q⟩
      · obtain ⟨o, ho, hc, hd⟩ := x
        exact ⟨o, ho, fun v q => by rw [hd] at q; cases q⟩
      · rw [← hK] at hq ⊢
        obtain ⟨its, rv, p', _⟩ := I.list hq
        exact ⟨its, rv, p'.isList, fun ys hy => I.list_inj hy hq⟩
      · obtain ⟨o2, e2, c2, _⟩ := x
        subst z
        have e3 := Option.some.inj (e.symm.trans e2)
        subst e3
        exact absurd (Value.type.inj (c2.symm.trans hc)) (by decide)
    · obtain ⟨its, rv, p', hz⟩ := I1.tuple hq
      have hlt : a < s1.heap.objs.size := by obtain ⟨_, g, _⟩ := id p'; exact Heap.lt_size g
      refine call_enumB (begins_tuple a its.toArray) p' fun h' he hit hsz hk => wpAny_pyIter_enum he ?_
      refine ⟨s1.heap.objs.size + 1, [s1.heap.objs.size + 1, s1.heap.objs.size], _, _, H1, rfl, I1.kept (t' := s1.toks) hk,
        turn_en (a := a) (Si := fun i h => h.IsTupleIter s1.heap.objs.size a i) (Sa := fun its h => h.IsTuple a its) (Nat.succ_ne_self _) (fun i h x => ?_) (fun i h h' x k => x.at fun o e => k o e) (fun {X pins σ H s xs} hK I hq => ?_) (fun A items hh => Draws.tuple hh _ _ (Nat.ne_of_lt hlt) items) (fun its h o x e hc z => ?_), ⟨⟨.none, he⟩, ⟨_, hit, rfl, rfl⟩⟩, two_fp I1, q⟩
      · obtain ⟨o, ho, hc, hd⟩ := x
        exact ⟨o, ho, fun v q => by rw [hd] at q; cases q⟩
      · rw [← hK] at hq ⊢
        obtain ⟨its, rv, p', _⟩ := I.tuple hq
        exact ⟨its, rv, p', fun ys hy => I.tuple_inj hy hq⟩
      · obtain ⟨o2, e2, c2, _⟩ := x
        subst z
        have e3 := Option.some.inj (e.symm.trans e2)
        subst e3
        exact absurd (Value.type.inj (c2.symm.trans hc)) (by decide)
/-- 0, x0; 1, x1; .. -/
def enP (l : List PV) : List PV := (List.range l.length).map fun i => .tup [.int (i : Nat), l.getD i .non]
theorem enP_len {l : List PV} : (enP l).length = l.length := by unfold enP; rw [List.length_map, List.length_range]
theorem enP_of {l : List PV} {i : Nat} {x : PV} (h : l[i]? = some x) : (enP l)[i]? = some (.tup [.int (i : Nat), x]) := by
  unfold enP
  rw [List.getElem?_map, List.getElem?_range (List.getElem?_eq_some_iff.mp h).1, Option.map_some, List.getD_eq_getElem?_getD, h]; rfl
theorem enP_get {l : List PV} {i : Nat} {p : PV} (h : (enP l)[i]? = some p) : ∃ x, l[i]? = some x ∧ p = .tup [.int (i : Nat), x] := by
  have hi : i < l.length := by have := (List.getElem?_eq_some_iff.mp h).1; rwa [enP_len] at this
  have e := enP_of (List.getElem?_eq_getElem hi)
  rw [h] at e
  exact ⟨_, List.getElem?_eq_getElem hi, Option.some.inj e⟩
theorem itr_el {H1 : Hp} {a : Addr} {l : List PV} : ItR K H1 (enumIt fun H => SqL K H a) (enP l) (fun M => rdL K M a l) where
  go := fun i H M t m k hi => by
    obtain ⟨vs, e, r⟩ := k.to m
    rw [enP_len] at hi
    have h1 : i < vs.length := by rw [← r.length]; omega
    exact ⟨vs, vs[i], e, by simp [h1]⟩
  yld := fun i H M x H' t m k hi y => by
    obtain ⟨T, ob, u, rfl, hT, hd, rfl, g1⟩ := y
    obtain ⟨vs, e, r⟩ := k.to m
    rw [enP_len] at hi
    obtain ⟨v1, q1, p1⟩ := r.get (List.getElem?_eq_getElem hi)
    have q3 := g1 vs e
    rw [q1] at q3; cases q3
    exact ⟨_, enP_of (List.getElem?_eq_getElem hi), pair_rep hT hd (.int _) p1⟩
  stop := fun H M t m k => by
    obtain ⟨vs, e, r⟩ := k.to m
    exact ⟨vs, e, by rw [enP_len, r.length]⟩
theorem itr_et {H1 : Hp} {a : Addr} {l : List PV} {vs : List V} (h : SqX K H1 a vs) (r : Reps K H1 l vs) : ItR K H1 (enumIt fun H => SqT K H a) (enP l) (fun _ => True) where
  go := fun i H M t m k hi => by
    rw [enP_len] at hi
    have h1 : i < vs.length := by rw [← r.length]; omega
    exact ⟨vs, vs[i], (t _ _ h).t, by simp [h1]⟩
  yld := fun i H M x H' t m k hi y => by
    obtain ⟨T, ob, u, rfl, hT, hd, rfl, g1⟩ := y
    rw [enP_len] at hi
    obtain ⟨v1, q1, p1⟩ := (r.mono t).get (List.getElem?_eq_getElem hi)
    have q3 := g1 vs (t _ _ h).t
    rw [q1] at q3; cases q3
    exact ⟨_, enP_of (List.getElem?_eq_getElem hi), pair_rep hT hd (.int _) p1⟩
  stop := fun H M t m k => ⟨vs, (t _ _ h).t, by rw [enP_len, r.length]⟩
@[reducible] def iEnP (K : Kf) (ta : TAp) : TIp := fun σ M R => ta σ M fun vs M1 => match vs with
  | [.tup l] => R (enP l) (fun _ => True) M1
  | [.ref a] => ∃ l, rdL K M1 a l ∧ R (enP l) (fun M => rdL K M a l) M1
  | _ => False
theorem pienumerate {e : Expr} {ta : TAp} {p tpos : Pos} {elts : List Expr} {kk : Nat} (hg : Gl X "enumerate") (hm : X.mg "enumerate" = none) (ha : PAp X H0 [e] ta) (hs : starEach [e] X.env = [(false, eval e X.env)] := by rfl) :
    PIp' X H0 (.Tuple elts kk tpos) (.Call (.Name "enumerate" p) [e] [] pos) (iEnP X.K ta) :=
  piW (pi_enX hg hm ha hs) fun σ H R ⟨σp, M, Rp, t, s, m, u, k⟩ => ⟨σp, M, _, t, s, m, u, fun vs H1 ps M1 t1 m1 rs u1 => by
    cases rs with
    | nil => exact u1.elim
    | cons r rr => cases rr with
      | cons _ _ => cases r <;> exact u1.elim
      | nil => cases r with
        | tup h q => exact ⟨_, _, rfl, .inr ⟨h.t, k _ _ _ _ _ t1 m1 (itr_et h q) u1⟩⟩
        | ref a =>
          obtain ⟨l, h1, u1⟩ := u1
          obtain ⟨vs, e, _⟩ := h1.to m1
          exact ⟨_, _, rfl, .inl ⟨e, k _ _ _ _ _ t1 m1 itr_el u1⟩⟩
        | _ => exact u1.elim⟩
end
end PL

set_option Elab.async false
set_option linter.all false
set_option maxRecDepth 100000
set_option maxHeartbeats 4000000
/-! PL28: a, b, .. = a list. -/
namespace PL
open PySem L2
section
variable {X : Cx} {H0 : Hp} {es : List Expr} {pos : Pos}
@[reducible] def gUnlP (K : Kf) (n : Nat) (g : TGsp) : TGp := fun v σ M Q => match v with | .ref a => ∃ l, rdL K M a l ∧ (l.length = n ∧ g l σ M Q) | _ => False
theorem pgunl {gs : TGsp} {j : Nat} {n : Nat} (hc : X.calm = true) (h : PGsp X H0 es gs) (hn : (assignEach es X.env).length = n := by rfl) (hst : (assignEach es X.env).findIdx? (·.1) = none := by rfl) : PGp X H0 (.Tuple es j pos) (gUnlP X.K n gs) :=
  pgW (pg_lst hc h hn hst) fun v σ H Q ⟨p, σp, M, Qp, t, r, s, m, u, k⟩ => by
    cases r with
    | ref a =>
      obtain ⟨l, h1, h2, h3⟩ := u
      obtain ⟨vs, q1, q2⟩ := h1.to m
      exact ⟨a, vs, rfl, q1, by rw [← q2.length]; exact h2, _, σp, M, Qp, t, q2, s, m, h3, k⟩
    | _ => exact u.elim
end
theorem CalleeR.neverz {P : Program} {w : World} {K : Kf} {mg : Str → Option Value} {base : Heap} {k : Nat} {x : Str} {st : Stmt} {N ps : List Str} (h : Here K mg x st ps) (S : FnScope N ps (defScope st)) : CalleeR (L2.CX P w) P w K mg base (k + 1) x ps (fun _ _ _ _ => False) :=
  okR_z h S (fun _ _ _ _ z => z.elim) fun f cdv A outer s H E Ep hr air tk own => ⟨_, pssdead, fun _ _ _ z => z.elim⟩
theorem CalleeR.nevern {P : Program} {w : World} {K : Kf} {mg : Str → Option Value} {base : Heap} {k : Nat} {x : Str} {st : Stmt} {N ps : List Str} (h : Here K mg x st ps) (S : FnScope N ps (defScope st)) : CalleeR (L2N.CX P w) P w K mg base (k + 1) x ps (fun _ _ _ _ => False) :=
  okR_n h S (fun _ _ _ _ z => z.elim) fun f cdv A outer s H E Ep hr air own => ⟨_, pssdead, fun _ _ _ z => z.elim⟩
end PL

set_option Elab.async false
set_option linter.all false
set_option maxRecDepth 100000
set_option maxHeartbeats 4000000
/-! PL29: a tuple among the items of a tuple. -/
namespace PL
open PySem PySem.Spec L2 PyProof.Rows
section
variable {K : Kf} {X : Cx} {H0 : Hp} {pos : Pos}
def rInFT (K : Kf) (neg : Bool) : R2 := fun x y H Q => ∃ d ds, Dp K H x d ∧ Dp K H y (.tuple ds) ∧ (d.plain = true ∧ d.depth ≤ 40) ∧ PyData.plainAll ds = true ∧ Q (.bl (if neg then !(ds.any fun z => PyData.eqv z d) else ds.any fun z => PyData.eqv z d)) H
theorem op_inFT (hu : X.A.units + 64 < cLine) : OpR X (compareOp .In) (rInFT X.K false) := fun pins s σ H x y v u Q I rx ry ⟨d, ds, hd, he, pd, pe, q⟩ => by
  obtain ⟨as, r1⟩ := Dp.reads I d x v hd rx
  obtain ⟨bs, r2⟩ := Dp.reads I (.tuple ds) y u he ry
  have hm := Nat.min_le_right (PyData.depthAll ds) d.depth
  exact SeqAt.in_tuple_data r2 r1 pe pd.1 (by have := pd.2; omega) ⟨.bl _, H, I, rfl, q⟩
theorem op_notInFT (hu : X.A.units + 64 < cLine) : OpR X (compareOp .NotIn) (rInFT X.K true) := fun pins s σ H x y v u Q I rx ry ⟨d, ds, hd, he, pd, pe, q⟩ => by
  obtain ⟨as, r1⟩ := Dp.reads I d x v hd rx
  obtain ⟨bs, r2⟩ := Dp.reads I (.tuple ds) y u he ry
  have hm := Nat.min_le_right (PyData.depthAll ds) d.depth
  exact SeqAt.notIn_tuple_data r2 r1 pe pd.1 (by have := pd.2; omega) ⟨.bl _, H, I, rfl, q⟩
def inDTP (K : Kf) (neg : Bool) : R2p := fun x y M Q => match y with
  | .tup l => l.length ≤ 16777216 ∧ TxtD 40 x ∧ (∀ z ∈ l, TxtD 40 z) ∧ ∀ b, (b = true ↔ x ∈ l) → Q (.bl (if neg then !b else b)) M
  | _ => False
theorem inDT_sim {neg : Bool} : SimR K (rInFT K neg) (inDTP K neg) := fun x y H px py M Q Qp rx ry m u k => by
  cases py with
  | tup l =>
    obtain ⟨h, hx, hl, q⟩ := u
    have ht : TxtD 41 (.tup l) := .tup h hl
    exact ⟨toD px, toDs l, hx.pure.dp.to m rx, ht.pure.dp.to m ry, ⟨hx.pure.plain, hx.pure.depth⟩, plain_all fun z hz => (hl z hz).pure, k _ _ _ _ (Tk.refl _ _) m (.bl _) (q _ (any_txt hx hl))⟩
  | _ => exact u.elim
theorem opInDT (hu : X.A.units + 64 < cLine) (hK : X.K = K := by rfl) : OpP X (compareOp .In) (inDTP K false) := hK ▸ ⟨_, op_inFT hu, inDT_sim⟩
theorem opNotInDT (hu : X.A.units + 64 < cLine) (hK : X.K = K := by rfl) : OpP X (compareOp .NotIn) (inDTP K true) := hK ▸ ⟨_, op_notInFT hu, inDT_sim⟩
end
end PL

set_option Elab.async false
set_option linter.all false
set_option maxRecDepth 100000
set_option maxHeartbeats 4000000
/-! PL30: match on a tuple: case [text, name, ..]; case _. -/
namespace L2
open PySem PySem.Spec PyProof.Rows
/-- what the cases do with the subject's value -/
abbrev TMc := V → TS
structure PMs (X : Cx) (cs : List MatchCase) (t : TMc) : Prop where
  run : ∀ (first : Bool) (pins : List (Addr × Obj)) (s : Shared) (σ : St) (H : Hp) (D : Ends) (v : V) (u : Value), Inv X pins σ H s → RelV v u → t v D σ H → wpAny (model X.prog X.w) X.A (matchCases cs X.env u first) (SP X pins D) X.xe s
theorem unpackItems_tup {prog : Program} {w : World} {A : Around} {E : Value → Shared → Prop} {s : Shared} {t : Addr} {items : List Value} {n : Nat} {Q : List Value → Shared → Prop} (hh : A.handled = none) (ht : IsTup s.heap t items.toArray) (hn : n = items.length)
    (hQ : ∀ h', Heap.ExtBut s.heap.objs.size s.heap h' → Q items { s with heap := h' }) : wpAny (model prog w) A (unpackItems (.ref t) n none) Q E s := by
  have e : n = items.toArray.size := by simpa using hn
  rw [e]
  exact unpackItems_tuple hh ht fun h' q => by simpa using hQ h' q
section
variable {X : Cx} {te : TE} {tb : TS} {tr : TMc}
theorem ps_match {e : Expr} {cs : List MatchCase} {pos : Pos} (he : PE X e te) (h : PMs X cs tr) : PS X (.Match e cs pos) (fun D σ H => te σ H fun v H1 => tr v D σ H1) := by
  refine ⟨fun pins s σ H D I q => ?_⟩
  exact wpAny_Match (thn (he.run pins s σ H _ I q) fun v s1 ⟨x, H1, I1, r1, q1⟩ => h.run true pins s1 σ H1 D x v I1 r1 q1)
theorem pms_wild {body : List Stmt} {rest : List MatchCase} {p : Pos} (hb : PSs X body tb) : PMs X (⟨.MatchAs none none p, none, body⟩ :: rest) (fun _ => tb) := by
  refine ⟨fun first pins s σ H D v u I r q => ?_⟩
  exact wpAny_matchCases_cons (wpAny_matchPattern_Capture (wpAny_assignInOrder_none (hb.run pins s σ H D I q)))
/-- the names that a sequence pattern binds (`_` binds none: a slot behind all others) -/
inductive Caps (X : Cx) : List Pattern → List (Option Str) → List Nat → Prop
  | nil : Caps X [] [] []
  | cons {ps ns is} {x : Str} {i : Nat} {p : Pos} (hN : X.N.Nodup) (hi : X.N[i]? = some x) (hx : Loc X.env.scope x) (hf : X.fn x = true ∨ X.env.scope.names.lookup x = some .local) (t : Caps X ps ns is) : Caps X (.MatchAs none (some x) p :: ps) (some x :: ns) (i :: is)
  | wild {ps ns is} {p : Pos} (t : Caps X ps ns is) : Caps X (.MatchAs none none p :: ps) (none :: ns) (1000000 :: is)
def setAll : St → List Nat → List V → St
  | σ, i :: is, v :: vs => setAll (if i = 1000000 then σ else σ.set i (some v)) is vs
  | σ, _, _ => σ
def bnds : List (Option Str) → List Value → List (Str × Value)
  | some x :: ns, u :: us => (x, u) :: bnds ns us
  | none :: ns, _ :: us => bnds ns us
  | _, _ => []
theorem Caps.len {ps ns is} (h : Caps X ps ns is) : ps.length = is.length := by
  induction h with
  | nil => rfl
  | cons _ _ _ _ _ ih => simp [ih]
  | wild _ ih => simp [ih]
theorem Caps.star {ps ns is} (h : Caps X ps ns is) : ps.findIdx? (·.isStar) = none := by
  induction h with
  | nil => rfl
  | cons _ _ _ _ _ ih => rw [List.findIdx?_cons, ih]; rfl
  | wild _ ih => rw [List.findIdx?_cons, ih]; rfl
theorem Caps.each {M : Model} {A : Around} {E : Value → Shared → Prop} {env : Env} {s : Shared} {ps ns is} (h : Caps X ps ns is) : ∀ {us : List Value} {Q : Option (List (Str × Value)) → Shared → Prop}, us.length = ps.length → Q (some (bnds ns us)) s → wpAny M A (matchEach ps env us) Q E s := by
  induction h with
  | nil =>
    intro us Q hl q
    cases us with
    | nil => exact wpAny_matchEach_nil q
    | cons _ _ => cases hl
  | cons hN hi hx hf t ih =>
    intro us Q hl q
    cases us with
    | nil => cases hl
    | cons u us => exact wpAny_matchEach_cons (wpAny_matchPattern_Capture (ih (by simpa using hl) q))
  | wild t ih =>
    intro us Q hl q
    cases us with
    | nil => cases hl
    | cons u us => exact wpAny_matchEach_cons (wpAny_matchPattern_Capture (ih (by simpa using hl) q))
theorem Caps.bind {pins : List (Addr × Obj)} {H : Hp} {ps ns is} (hw : X.N.length ≤ 1000000) (h : Caps X ps ns is) : ∀ {s : Shared} {σ : St} {vs : List V} {us : List Value} {Q : Unit → Shared → Prop}, Inv X pins σ H s → Vals vs us → us.length = ps.length → (∀ s', Inv X pins (setAll σ is vs) H s' → Q () s') →
    wpAny (model X.prog X.w) X.A (assignInOrder ((bnds ns us).map fun (n, _) => bindName X.env n) ((bnds ns us).map (·.2))) Q X.xe s := by
  induction h with
  | nil =>
    intro s σ vs us Q I r hl q
    exact wpAny_assignInOrder_none (q s (by simpa [setAll] using I))
  | @cons ps ns is x i p hN hi hx hf t ih =>
    intro s σ vs us Q I r hl q
    cases r with
    | nil => cases hl
    | cons r rr =>
      have hne : ¬ i = 1000000 := fun e => by rw [e, List.getElem?_eq_none hw] at hi; cases hi
      exact wpAny_assignInOrder_more (wpAny_bindName (store_ok I hN hi hx r (fun s' I' => ih I' rr (by simpa using hl) (by rw [setAll, if_neg hne] at q; exact q)) hf))
  | wild t ih =>
    intro s σ vs us Q I r hl q
    cases r with
    | nil => cases hl
    | cons r rr => exact ih I rr (by simpa using hl) (by rw [setAll, if_pos rfl] at q; exact q)
def tSeqC (K : PySem.W.Frag) (c : Str) (is : List Nat) (tb : TS) (tr : TMc) : TMc := fun v D σ H => ∃ a xs, v = .ref a ∧ SqT K H a xs ∧
  (xs.length = is.length + 1 → ∃ x ys, xs = .str x :: ys ∧ (x = c → tb D (setAll σ is ys) H) ∧ (x ≠ c → tr v D σ H)) ∧ (xs.length ≠ is.length + 1 → tr v D σ H)
theorem pms_seq {c : Str} {k : Nat} {p1 p2 p3 : Pos} {ps : List Pattern} {ns : List (Option Str)} {is : List Nat} {body : List Stmt} {rest : List MatchCase} (hc : X.calm = true) (hw : X.N.length ≤ 1000000) (h : Caps X ps ns is) (hb : PSs X body tb) (hr : PMs X rest tr) :
    PMs X (⟨.MatchSequence (.MatchValue (.Constant (.str c) k p1) p2 :: ps) p3, none, body⟩ :: rest) (tSeqC X.K c is tb tr) := by
  refine ⟨fun first pins s σ H D v u I r q => ?_⟩
  obtain ⟨a, xs, e1, hq, qy, qn⟩ := q
  subst e1
  cases r
  obtain ⟨its, rv, ht, hz⟩ := I.tuple hq
  have hl : its.length = xs.length := rv.length.symm
  have hfit : ((its.toArray.size : Nat) : Int) < 2 ^ 63 := by
    have : its.toArray.size = its.length := by simp
    have := (show sizeLine = 16777216 by decide)
    omega
  refine wpAny_matchCases_cons ?_
  by_cases hn : xs.length = is.length + 1
  · obtain ⟨x, ys, e2, y1, y2⟩ := qy hn
    subst e2
    refine matchSeq_tuple_hit ht hfit (by simp [h.len, hl, hn]) ?_ (by rw [List.findIdx?_cons, h.star]; rfl) (by rfl)
    refine unpackItems_tup (I.ok.hd hc) ht (by simp [h.len, hl, hn]) fun h' hx => ?_
    have I1 : Inv X pins σ H { s with heap := h', toks := s.toks + 1 + 1 } := I.kept fun b o e => hx b o (Nat.ne_of_lt (Heap.lt_size e)) e
    cases rv with
    | cons r rr =>
      obtain ⟨t, e3⟩ := r
      subst e3
      have hl2 := rr.length
      simp only [List.length_cons] at hn hl
      refine wpAny_matchEach_cons (wpAny_matchPattern_Value (Calls.Constant_str (eq_str (wpAny_truthy_bool ?_))))
      by_cases e : x = c
      · subst e
        simp only [beq_self_eq_true, if_true]
        refine h.each (by rw [h.len]; omega) ?_
        refine h.bind hw (I1.tok _) rr (by rw [h.len]; omega) fun s' I2 => hb.run pins s' _ H D I2 (y1 rfl)
      · rw [beq_eq_false_iff_ne.mpr e]
        exact hr.run false pins _ σ H D (.ref a) (.ref a) (I1.tok _) rfl (y2 e)
  · exact matchSeq_tuple_miss ht hfit (by simp [h.len, hl, hn]) (hr.run false pins _ σ H D (.ref a) (.ref a) (I.tok _) rfl (qn hn)) (by rw [List.findIdx?_cons, h.star]; rfl) (by rfl)
end
end L2
namespace PL
open PySem L2
section
variable {X : Cx} {H0 : Hp} {te : TEp} {tb : TSp} {tr : PV → TSp}
abbrev TMp := PV → TSp
def concM (K : Kf) (H0 : Hp) (t : TMp) : TMc := fun v D σ H => ∃ p σp M Dp, Tk K H0 H ∧ Rep K H p v ∧ RelS K H σp σ ∧ RelM K H M ∧ t p Dp σp M ∧ EndsRel K H D Dp
abbrev PMp (X : Cx) (H0 : Hp) (cs : List MatchCase) (t : TMp) : Prop := PMs X cs (concM X.K H0 t)
theorem pmW {cs : List MatchCase} {t t' : TMc} (h : PMs X cs t) (w : ∀ v D σ H, t' v D σ H → t v D σ H) : PMs X cs t' := ⟨fun f pins s σ H D v u I r q => h.run f pins s σ H D v u I r (w _ _ _ _ q)⟩
@[reducible] def tMatch (te : TEp) (t : TMp) : TSp := fun D σ M => te σ M fun v M1 => t v D σ M1
theorem psmatch {e : Expr} {cs : List MatchCase} {pos : Pos} {t : TMp} (he : PEp X H0 e te) (h : PMp X H0 cs t) : PSp' X H0 (.Match e cs pos) (tMatch te t) :=
  psW (ps_match he h) fun D σ H ⟨σp, M, Dp, t, s, m, u, k⟩ => ⟨σp, M, _, t, s, m, u, fun v H1 p M1 t1 m1 r u1 => ⟨p, σp, M1, Dp, t.trans t1, r, s.mono t1, m1, u1, k.mono t1⟩⟩
def tWild (tb : TSp) : TMp := fun _ => tb
theorem pmwild {body : List Stmt} {rest : List MatchCase} {p : Pos} (hb : PSsp X H0 body tb) : PMp X H0 (⟨.MatchAs none none p, none, body⟩ :: rest) (tWild tb) :=
  pmW (pms_wild hb) fun v D σ H ⟨p, σp, M, Dp, t, r, s, m, u, k⟩ => ⟨σp, M, Dp, t, s, m, u, k⟩
def setAllP : PSt → List Nat → List PV → PSt
  | σ, i :: is, v :: vs => setAllP (if i = 1000000 then σ else σ.set i (some v)) is vs
  | σ, _, _ => σ
theorem RelS.setAll {K : Kf} {H : Hp} : ∀ {ps : List PV} {vs : List V} {is : List Nat} {σ τ}, Reps K H ps vs → RelS K H σ τ → RelS K H (setAllP σ is ps) (L2.setAll τ is vs) := by
  intro ps vs is
  induction is generalizing ps vs with
  | nil => intro σ τ r s; cases r <;> exact s
  | cons i is ih => intro σ τ r s; cases r with
    | nil => exact s
    | cons r rr =>
      by_cases e : i = 1000000
      · rw [setAllP, L2.setAll, if_pos e, if_pos e]; exact ih rr s
      · rw [setAllP, L2.setAll, if_neg e, if_neg e]; exact ih rr (s.set r i)
def tCase (c : Str) (is : List Nat) (tb : TSp) (tr : TMp) : TMp := fun v D σ M => ∃ l, v = .tup l ∧ (l.length = is.length + 1 → ∃ x ys, l = .str x :: ys ∧ (x = c → tb D (setAllP σ is ys) M) ∧ (x ≠ c → tr v D σ M)) ∧ (l.length ≠ is.length + 1 → tr v D σ M)
theorem pmcase {c : Str} {k : Nat} {p1 p2 p3 : Pos} {ps : List Pattern} {ns : List (Option Str)} {is : List Nat} {body : List Stmt} {rest : List MatchCase} (hc : X.calm = true) (hw : X.N.length ≤ 1000000) (h : Caps X ps ns is) (hb : PSsp X H0 body tb) (hr : PMp X H0 rest tr) :
    PMp X H0 (⟨.MatchSequence (.MatchValue (.Constant (.str c) k p1) p2 :: ps) p3, none, body⟩ :: rest) (tCase c is tb tr) :=
  pmW (pms_seq hc hw h hb hr) fun v D σ H ⟨p, σp, M, Dp, t, r, s, m, u, k⟩ => by
    obtain ⟨l, e, u1, u2⟩ := u
    subst e
    cases r with
    | tup h r => 
      refine ⟨_, _, rfl, h.t, fun hl => ?_, fun hl => ⟨_, σp, M, Dp, t, .tup h r, s, m, u2 (by rw [r.length]; exact hl), k⟩⟩
      obtain ⟨x, ys, e2, y1, y2⟩ := u1 (by rw [r.length]; exact hl)
      subst e2
      cases r with
      | cons r rr => cases r with
        | str => exact ⟨_, _, rfl, fun e => ⟨_, M, Dp, t, s.setAll rr, m, y1 e, k⟩, fun e => ⟨_, σp, M, Dp, t, .tup h (.cons (.str _) rr), s, m, y2 e, k⟩⟩
    | _ => all_goals exact absurd ‹_› (by simp)
theorem case_len {c : Str} {is : List Nat} {l : List PV} {D : PEnds} {σ : PSt} {M : PHp} (h : l.length ≠ is.length + 1) (q : tr (.tup l) D σ M) : tCase c is tb tr (.tup l) D σ M := ⟨l, rfl, fun e => absurd e h, fun _ => q⟩
theorem case_no {c x : Str} {is : List Nat} {l : List PV} {D : PEnds} {σ : PSt} {M : PHp} (h : x ≠ c) (q : tr (.tup (.str x :: l)) D σ M) : tCase c is tb tr (.tup (.str x :: l)) D σ M := ⟨_, rfl, fun _ => ⟨x, l, rfl, fun e => absurd e h, fun _ => q⟩, fun _ => q⟩
theorem case_yes {c : Str} {is : List Nat} {l : List PV} {D : PEnds} {σ : PSt} {M : PHp} (h : l.length = is.length) (q : tb D (setAllP σ is l) M) : tCase c is tb tr (.tup (.str c :: l)) D σ M := ⟨_, rfl, fun _ => ⟨c, l, rfl, fun _ => q, fun e => absurd rfl e⟩, fun e => absurd (by simp [h]) e⟩
end
end PL

set_option Elab.async false
set_option linter.all false
set_option maxRecDepth 100000
set_option maxHeartbeats 4000000
/-! PL31: try .. except X: a suite. -/
namespace PL
open PySem L2
section
variable {X : Cx} {H0 : Hp}
@[reducible] def tTryOn (K : Kf) (c : Value) (tb : PWX → TSp) (ts : TSp) : TSp := fun D σ M =>
  tb (fun cls d σ' M' => PySem.W.exmOne K cls c = some true ∧ ts D σ' M') D σ M
theorem pstryon {x : Str} {c : Value} {body suite : List Stmt} {b₀ : Stmt} {np pos pos' : Pos} {tb : PWX → TSp} {ts : TSp} (hk : X.calm = true) (hs : X.stack = X.env :: X.outer) (hf : X.env.frame = some X.env.locals)
    (hc : Names X x c)
    (hb : ∀ (H1 : Hp) (pw : PWX) (pn : List (Addr × Obj)) (xe : Value → Shared → Prop), Air (L2.CX X.prog X.w) (X.tr pn xe) H1 pw → PassesOwn (model X.prog X.w) X.A X.env xe → PSsp (X.tr pn xe) H1 body (tb pw))
    (hsu : ∀ (a : Addr) (oe : Obj) (cls : Value) (d : Option Addr) (pn : List (Addr × Obj)), Zc cls d oe → (∃ vs, oe.data = .fields vs) → PSsp (X.suite a ((a, oe) :: pn)) H0 (b₀ :: suite) ts) :
    PSp' X H0 (.Try body [.ExceptHandler (some (.Name x np)) none (b₀ :: suite) pos'] [] [] pos) (tTryOn X.K c tb ts) := by
  refine psW (L2.ps_try_only (tb := fun W D σ H => ∃ H1 pw, (∀ c d σ H, concW X.K H1 pw c d σ H → W c d σ H) ∧ concS X.K H1 (tb pw) D σ H) (ts := fun a cls d => concS X.K H0 ts) (Wout := fun _ _ _ _ => False) hs hf hc (fun u s' x => ?_) (fun W pn xe tk po => ⟨fun pins s σ H D I h => ?_⟩) (fun a oe cls d pn hz hv => hsu a oe cls d pn hz hv)) fun D σ H ⟨σp, M, Dp, t, s, m, u, k⟩ => ?_
  · obtain ⟨a, B, sI, pins, σ, H, cls, d, h⟩ := x
    exact h.2.2.2.2.2.2.2.2.elim
  · obtain ⟨H1, pw, imp, h⟩ := h
    exact (hb H1 pw pn xe (Air.z (X := X.tr pn xe) hk (tk.imp imp)) po).run pins s σ H D I h
  · refine ⟨H, _, ?_, σp, M, Dp, Tk.refl _ _, s, m, u, k⟩
    intro cls d σ1 H1 ⟨σp1, M1, t1, s1, m1, q1, q2⟩
    exact ⟨true, q1, fun _ a na => ⟨σp1, M1, Dp, t.trans t1, s1, m1, q2, k.mono t1⟩, fun z => nomatch z⟩
end
end PL
namespace PL
open PySem L2
theorem takes_none {X : Cx} {K : Kf} {H0 : Hp} : L2.Takes X (concW K H0 fun _ _ _ _ => False) := fun u s' x => by
  obtain ⟨a, B, sI, pins, σ, H, cls, d, h⟩ := x
  obtain ⟨_, _, _, _, _, q⟩ := h.2.2.2.2.2.2.2.2
  exact q.elim
/-- nothing is raised -/
theorem Air.none {X : Cx} {H0 : Hp} (hc : X.calm = true) : Air (L2.CX X.prog X.w) X H0 fun _ _ _ _ => False := Air.z hc takes_none
theorem pcallR0 {X : Cx} {H0 : Hp} {pos : Pos} {k : Nat} {x : Str} {ps : List Str} {psp : PSpec} {p : Pos} {e : Expr} {es : List Expr} {ta : TAp} (C : CalleeR (L2.CX X.prog X.w) X.prog X.w X.K X.mg X.base k x ps psp) (hc : X.calm = true) (hr : Room k X.A) (ha : PAp X H0 (e :: es) ta) (hg : Gl X x := by rfl) (hd : (x == ("__debug__" : Str)) = false := by decide)
    (he : starEach (e :: es) X.env = (false, eval e X.env) :: starEach es X.env := by rfl) (hpl : (backTo pos (starEach es X.env)).any (·.1) = false := by rfl) : PEp X H0 (.Call (.Name x p) (e :: es) [] pos) (tCallR psp (fun _ _ _ _ => False) ta) :=
  pcallR C (Air.none hc) hr ha hg hd he hpl
end PL

set_option Elab.async false
set_option linter.all false
set_option maxRecDepth 100000
set_option maxHeartbeats 4000000
/-! PL32: xs[::-1] of a list. -/
namespace PL
open PySem L2
section
variable {X : Cx} {H0 : Hp} {K : Kf} {H : Hp}
theorem Reps.reverse : ∀ {ps : List PV} {vs : List V}, Reps K H ps vs → Reps K H ps.reverse vs.reverse
  | _, _, .nil => .nil
  | _, _, .cons r t => by rw [List.reverse_cons, List.reverse_cons]; exact (Reps.reverse t).snoc r
@[reducible] def tRevP (K : Kf) (te : TEp) : TEp := fun σ M Q => te σ M fun x M1 => match x with
  | .ref a => ∃ l, rdL K M1 a l ∧ ∀ p, M1 p = none → Q (.ref p) (updM M1 p (.lst l.reverse))
  | _ => False
theorem prevL {e : Expr} {te : TEp} {k : Nat} {p1 p2 p3 pos : Pos} (he : PEp X H0 e te) (hK : X.K = K := by rfl) : PEp X H0 (.Subscript e (.Slice none none (some (.UnaryOp .USub (.Constant (.int 1) k p1) p2)) p3) pos) (tRevP K te) := by
  subst hK
  refine peW (pe_revL he) fun σ H Q ⟨σp, M, Qp, t, s, m, u, k⟩ => ⟨σp, M, _, t, s, m, u, fun x H1 px M1 t1 m1 rx u1 => ?_⟩
  have kk : Kont X.K H1 Q Qp := fun v H4 p M4 t4 => k v H4 p M4 (t1.trans t4)
  cases rx with
  | ref a =>
    obtain ⟨l, hl, q⟩ := u1
    obtain ⟨vs, e, r⟩ := hl.to m1
    exact ⟨_, _, rfl, e, fun p hp => new_lst m1 hp r.reverse q kk⟩
  | _ => exact u1.elim
end
end PL

set_option Elab.async false
set_option linter.all false
set_option maxRecDepth 100000
set_option maxHeartbeats 4000000
/-! PL33: dicts whose keys are tuples of numbers and texts, nested. -/
namespace PL
open PySem L2 PySem.Spec PyProof.Rows
/-! ### keys -/
mutual
theorem KyD.inj : ∀ {n m : Nat} {p q : PV}, KyD n p → KyD m q → keyOf p = keyOf q → p = q
  | _, _, _, _, .int i, .int j, h => by simp only [keyOf] at h; injection h with h; rw [h]
  | _, _, _, _, .str i, .str j, h => by simp only [keyOf] at h; injection h with h; rw [h]
  | _, _, .tup l, .tup l', .tup h1, .tup h2, h => by
    simp only [keyOf] at h
    injection h with h
    rw [KyDs.inj (l := l) (l' := l') h1 h2 h]
  | _, _, _, _, .int i, .str j, h => by simp only [keyOf] at h; cases h
  | _, _, _, _, .int i, .tup j, h => by simp only [keyOf] at h; cases h
  | _, _, _, _, .str i, .int j, h => by simp only [keyOf] at h; cases h
  | _, _, _, _, .str i, .tup j, h => by simp only [keyOf] at h; cases h
  | _, _, _, _, .tup i, .int j, h => by simp only [keyOf] at h; cases h
  | _, _, _, _, .tup i, .str j, h => by simp only [keyOf] at h; cases h
theorem KyDs.inj : ∀ {n m : Nat} {l l' : List PV}, (∀ x ∈ l, KyD n x) → (∀ x ∈ l', KyD m x) → keysOf l = keysOf l' → l = l'
  | _, _, [], [], _, _, _ => rfl
  | _, _, [], _ :: _, _, _, h => by simp only [keysOf] at h; cases h
  | _, _, _ :: _, [], _, _, h => by simp only [keysOf] at h; cases h
  | _, _, p :: l, q :: l', h1, h2, h => by
    simp only [keysOf] at h
    injection h with e1 e2
    rw [KyD.inj (h1 p List.mem_cons_self) (h2 q List.mem_cons_self) e1, KyDs.inj (fun x hx => h1 x (List.mem_cons_of_mem _ hx)) (fun x hx => h2 x (List.mem_cons_of_mem _ hx)) e2]
end
theorem keys_depth {n : Nat} : ∀ {l : List PV}, (∀ x ∈ l, (keyOf x).depth ≤ n) → NestedKey.depthAll (keysOf l) ≤ n
  | [], _ => Nat.zero_le _
  | p :: r, h => by
    simp only [keysOf]
    show max _ _ ≤ n
    exact Nat.max_le.mpr ⟨h p List.mem_cons_self, keys_depth fun x hx => h x (List.mem_cons_of_mem _ hx)⟩
theorem KyD.depth : ∀ {n : Nat} {p : PV}, KyD n p → (keyOf p).depth ≤ n
  | _, _, .int i => Nat.zero_le _
  | _, _, .str x => Nat.zero_le _
  | n + 1, .tup l, .tup h => by
    simp only [keyOf]
    show NestedKey.depthAll _ + 1 ≤ n + 1
    exact Nat.succ_le_succ (keys_depth fun x hx => KyD.depth (h x hx))
section
variable {X : Cx} {pins : List (Addr × Obj)} {σ : L2.St} {H : Hp} {s : Shared}
theorem rep_keys (I : Inv X pins σ H s) {n : Nat} (ih : ∀ (p : PV) v u, KyD n p → Rep X.K H p v → RelV v u → NestedIs s.heap (keyOf p) u) : ∀ {l : List PV} {vs : List V} {us : List Value}, (∀ x ∈ l, KyD n x) → Reps X.K H l vs → Vals vs us → NestedAll s.heap (keysOf l) us
  | [], _, _, _, .nil, .nil => by simp only [keysOf]; exact .nil
  | p :: l, _, _, h, .cons r rr, .cons z zz => by
    simp only [keysOf]
    exact .cons (ih p _ _ (h p List.mem_cons_self) r z) (rep_keys I ih (fun x hx => h x (List.mem_cons_of_mem _ hx)) rr zz)
theorem rep_key (I : Inv X pins σ H s) : ∀ (n : Nat) (p : PV) v u, KyD n p → Rep X.K H p v → RelV v u → NestedIs s.heap (keyOf p) u
  | _, _, _, _, .int i, .int _, z => by
    simp only [keyOf]
    obtain ⟨t, rfl⟩ := z
    exact .int _ _
  | _, _, _, _, .str x, .str _, z => by
    simp only [keyOf]
    obtain ⟨t, rfl⟩ := z
    exact .text _ _
  | n + 1, _, _, _, .tup h, .tup hs r, z => by
    simp only [keyOf]
    cases z
    obtain ⟨its, rv, ⟨o, at_, hc, m, hd⟩, _⟩ := I.tuple hs.t
    exact .tup at_ hc hd (rep_keys I (rep_key I n) h r rv)
theorem rep_is (I : Inv X pins σ H s) {p : PV} {b : Addr} (h : KyD 8 p) (r : Rep X.K H p (.ref b)) : (nestedKind X.prog X.w).is s.heap (keyOf p) b := ⟨rep_key I 8 p (.ref b) (.ref b) h r rfl, h.depth⟩
theorem RepN.all (I : Inv X pins σ H s) {kvs : List (PV × PV)} {xs : NXs} (r : RepN X.K H kvs xs) : ∀ x ∈ xs, (nestedKind X.prog X.w).is s.heap x.1 x.2.1 := by
  induction r with
  | nil => intro x hx; cases hx
  | cons d a b c _ ih =>
    intro x hx
    rcases List.mem_cons.mp hx with rfl | hx
    · exact rep_is I d a
    · exact ih x hx
theorem RepN.length {K : Kf} {kvs : List (PV × PV)} {xs : NXs} (r : RepN K H kvs xs) : kvs.length = xs.length := by
  induction r with
  | nil => rfl
  | cons _ _ _ _ _ ih => simp [ih]
/-- the dict as the library tells it -/
theorem dn_get (I : Inv X pins σ H s) {a : Addr} {kvs : List (PV × PV)} {xs : NXs} (e : H a = some (DNo a X.w xs)) (r : RepN X.K H kvs xs) : s.heap.DictOfH (nestedKind X.prog X.w) a xs ∧ (a == sysModules) = false ∧ xs.length ≤ sizeLine := by
  obtain ⟨⟨h1, h2, h3, o, es, ep, q1, q2, q3, q4⟩, _⟩ := I.hok a _ e
  exact ⟨⟨o, es, ep, q1, q2, q3, q4, r.all I, h3⟩, h1, h2⟩
theorem dn_new {P : Program} {w : World} {H : Hp} {h : Heap} {a : Addr} {xs : NXs} (d : h.DictOfH (nestedKind P w) a xs) (h1 : (a == sysModules) = false) (h2 : xs.length ≤ sizeLine) : ObjOk P w H h a (DNo a w xs) := by
  obtain ⟨o, es, ep, q1, q2, q3, q4, _, h3⟩ := d
  refine ⟨⟨h1, h2, h3, o, es, ep, q1, q2, q3, q4⟩, ⟨o, q1⟩, fun h1 h2 p k => ?_⟩
  obtain ⟨a1, a2, a3, o, es, ep, b1, b2, b3, b4⟩ := p
  exact ⟨a1, a2, a3, o, es, ep, k o b1, b2, b3, b4⟩
end
/-! ### what stands under a key -/
def getN (kvs : List (PV × PV)) (p : PV) : Option PV := (kvs.find? fun z => decide (keyOf z.1 = keyOf p)).map (·.2)
def setN (kvs : List (PV × PV)) (p q : PV) : List (PV × PV) := kvs.map fun z => if keyOf z.1 = keyOf p then (z.1, q) else z
def putN (kvs : List (PV × PV)) (p q : PV) : List (PV × PV) := if (getN kvs p).isSome = true then setN kvs p q else kvs ++ [(p, q)]
theorem RepN.at {K : Kf} {H : Hp} {kvs : List (PV × PV)} {xs : NXs} (r : RepN K H kvs xs) (p : PV) : (getN kvs p = none ∧ atKey xs (keyOf p) = none) ∨ ∃ q b u v, getN kvs p = some q ∧ atKey xs (keyOf p) = some (b, u) ∧ Rep K H q v ∧ RelV v u := by
  induction r with
  | nil => exact .inl ⟨rfl, rfl⟩
  | @cons p' q' b v u ps xs d h1 h2 h3 t ih =>
    unfold getN atKey at ih ⊢
    rw [List.find?_cons, List.find?_cons]
    by_cases e : keyOf p' = keyOf p
    · rw [decide_eq_true e]
      exact .inr ⟨q', b, u, v, rfl, rfl, h2, h3⟩
    · rw [decide_eq_false e]
      exact ih
theorem RepN.snoc {K : Kf} {H : Hp} {kvs : List (PV × PV)} {xs : NXs} (r : RepN K H kvs xs) {p q : PV} {b : Addr} {v : V} {u : Value} (d : KyD 8 p) (h1 : Rep K H p (.ref b)) (h2 : Rep K H q v) (h3 : RelV v u) : RepN K H (kvs ++ [(p, q)]) (xs ++ [(keyOf p, b, u)]) := by
  induction r with
  | nil => exact .cons d h1 h2 h3 .nil
  | cons d a b c _ ih => exact .cons d a b c ih
theorem RepN.set {K : Kf} {H : Hp} {kvs : List (PV × PV)} {xs : NXs} (r : RepN K H kvs xs) {p q : PV} {v : V} {u : Value} (h2 : Rep K H q v) (h3 : RelV v u) : RepN K H (setN kvs p q) (xs.map (putAt (keyOf p) u)) := by
  induction r with
  | nil => exact .nil
  | @cons p' q' b v' u' ps xs d a b' c _ ih =>
    unfold setN at ih ⊢
    rw [List.map_cons, List.map_cons]
    unfold putAt
    by_cases e : keyOf p' = keyOf p
    · rw [if_pos e, show (if (keyOf p', b, u').1 = keyOf p then ((keyOf p', b, u').1, (keyOf p', b, u').2.1, u) else (keyOf p', b, u')) = (keyOf p', b, u) from if_pos e]
      exact .cons d a h2 h3 ih
    · rw [if_neg e, show (if (keyOf p', b, u').1 = keyOf p then ((keyOf p', b, u').1, (keyOf p', b, u').2.1, u) else (keyOf p', b, u')) = (keyOf p', b, u') from if_neg e]
      exact .cons d a b' c ih
theorem stored_no {xs : NXs} {k : NestedKey} {a : Addr} {u : Value} (h : atKey xs k = none) : storedH xs k a u = xs ++ [(k, a, u)] := storedH_new h a u
end PL
namespace PL
open PySem L2 PySem.Spec PyProof.Rows
section
variable {X : Cx} {H0 : Hp}
/-- {} -/
@[reducible] def tNNew (w : World) : TEp := fun _ M Q => ∀ p, M p = none → Q (.ref p) (updM M p (.dN w []))
theorem pnnew {pos : Pos} : PEp X H0 (.Dict [] [] pos) (tNNew X.w) := by
  refine ⟨fun pins s σ H Q I ⟨σp, M, Qp, t, sr, m, u, k⟩ => wpAny_Dict_empty ⟨.ref s.heap.objs.size, _, I.laid (a := s.heap.objs.size) (o := DNo s.heap.objs.size X.w []) (t' := s.toks) (fun _ _ q => Heap.get?_push_of_some _ q) (Nat.le_refl _) (dn_new (Heap.DictOfH.new s.heap) (beq_eq_false_iff_ne.mpr (Ne.symm (Nat.ne_of_lt I.big))) (Nat.zero_le _)), rfl, ?_⟩⟩
  have hp := I.hok.fresh (Nat.le_refl s.heap.objs.size)
  have t1 : Tk X.K H (L2.upd H s.heap.objs.size (DNo s.heap.objs.size X.w [])) := .new hp
  exact k _ _ _ _ t1 (m.put (m := .dN X.w []) t1 ⟨[], upd_same, .nil⟩) (.ref _) (u _ (m.fresh hp))
theorem dn_tup {H : Hp} {a : Addr} {w : World} {xs : NXs} (h : H a = some (DNo a w xs)) : ∀ ys, ¬ Rd H a (.tup ys) := fun ys e => by
  rcases e with e | ⟨u, e⟩ <;> rw [h] at e <;> cases e
/-- d.setdefault(k, x) -/
@[reducible] def tNSetd (w : World) (td ty tx : TEp) : TEp := fun σ M Q => td σ M fun x M1 => match x with
  | .ref a => (∃ kvs, M1 a = some (.dN w kvs)) ∧ ty σ M1 fun y M2 => tx σ M2 fun z M3 => ∃ kvs, M3 a = some (.dN w kvs) ∧ (KyD 8 y ∧ ∃ l, y = .tup l) ∧ kvs.length < sizeLine ∧ (∀ v, getN kvs y = some v → Q v M3) ∧ (getN kvs y = none → Q z (updM M3 a (.dN w (kvs ++ [(y, z)]))))
  | _ => False
theorem pnsetd {o e f : Expr} {td ty tx : TEp} {apos cpos : Pos} (hu : X.A.units + 16 < cLine) (ho : PEp X H0 o td) (he : PEp X H0 e ty) (hf : PEp X H0 f tx) (mm : M2 X o "setdefault" apos e f cpos) : PEp X H0 (.Call (.Attribute o "setdefault" apos) [e, f] [] cpos) (tNSetd X.w td ty tx) := by
  refine ⟨fun pins s σ H Q I ⟨σp, M, Qp, t, sr, m, u, k⟩ => ?_⟩
  refine wpAny_Call_method mm.base mm.few mm.line PySem.F.plainAttrs_dict PySem.F.slot_dict_setdefault PySem.F.type_dict_setdefault
    (thn (ho.run pins s σ H (fun x H1 => ∃ px M1, Tk X.K H H1 ∧ RelM X.K H1 M1 ∧ Rep X.K H1 px x ∧ (match px with
      | .ref a => (∃ kvs, M1 a = some (.dN X.w kvs)) ∧ ty σp M1 fun y M2 => tx σp M2 fun z M3 => ∃ kvs, M3 a = some (.dN X.w kvs) ∧ (KyD 8 y ∧ ∃ l, y = .tup l) ∧ kvs.length < sizeLine ∧ (∀ v, getN kvs y = some v → Qp v M3) ∧ (getN kvs y = none → Qp z (updM M3 a (.dN X.w (kvs ++ [(y, z)]))))
      | _ => False)) I ⟨σp, M, _, t, sr, m, u, fun x H1 px M1 t1 m1 rx u1 => ⟨px, M1, t1, m1, rx, u1⟩⟩) fun uv s1 ⟨x, H1, I1, r1, px, M1, t1, m1, rx, u1⟩ => ?_)
  cases rx with
  | ref a =>
    obtain ⟨⟨kvs0, e0⟩, u2⟩ := u1
    obtain rfl : uv = Value.ref a := r1
    obtain ⟨xs0, hx0, rn0⟩ := m1 a _ e0
    obtain ⟨d0, _, _⟩ := dn_get I1 hx0 rn0
    refine ⟨d0.typeIs, fun b eb => ?_, ?_⟩
    · cases eb
      obtain ⟨o, es, ep, q1, q2, _⟩ := d0
      exact ⟨o, q1, q2.2.1⟩
    rw [mm.trees]
    refine Calls.callWith_builtin rfl (Calls.evalArgs_plain (Calls.spliced_cons (thn (he.run pins s1 σ H1 (fun y H2 => ∃ py M2, Tk X.K H1 H2 ∧ RelM X.K H2 M2 ∧ Rep X.K H2 py y ∧ tx σp M2 fun z M3 => ∃ kvs, M3 a = some (.dN X.w kvs) ∧ (KyD 8 py ∧ ∃ l, py = .tup l) ∧ kvs.length < sizeLine ∧ (∀ v, getN kvs py = some v → Qp v M3) ∧ (getN kvs py = none → Qp z (updM M3 a (.dN X.w (kvs ++ [(py, z)]))))) I1
        ⟨σp, M1, _, t.trans t1, sr.mono t1, m1, u2, fun y H2 py M2 t2 m2 ry u3 => ⟨py, M2, t2, m2, ry, u3⟩⟩) fun iv s2 ⟨y, H2, I2, ry0, py, M2, t2, m2, ry, u3⟩ =>
      Calls.spliced_cons (thn (hf.run pins s2 σ H2 (fun z H3 => ∃ pz M3, Tk X.K H2 H3 ∧ RelM X.K H3 M3 ∧ Rep X.K H3 pz z ∧ ∃ kvs, M3 a = some (.dN X.w kvs) ∧ (KyD 8 py ∧ ∃ l, py = .tup l) ∧ kvs.length < sizeLine ∧ (∀ v, getN kvs py = some v → Qp v M3) ∧ (getN kvs py = none → Qp pz (updM M3 a (.dN X.w (kvs ++ [(py, pz)]))))) I2
        ⟨σp, M2, _, (t.trans t1).trans t2, (sr.mono t1).mono t2, m2, u3, fun z H3 pz M3 t3 m3 rz u4 => ⟨pz, M3, t3, m3, rz, u4⟩⟩) fun fv s3 ⟨z, H3, I3, rz0, pz, M3, t3, m3, rz, kvs, e3, ⟨kd, l, el⟩, hl, q3, q4⟩ => Calls.spliced_nil ?_))))
    subst el
    have ry3 := ry.mono t3
    cases ry3 with
    | tup hs rr =>
      rename_i b vs
      obtain rfl : iv = Value.ref b := ry0
      obtain ⟨xs, hx, rn⟩ := m3 a _ e3
      obtain ⟨d3, sy, sz⟩ := dn_get I3 hx rn
      have ky := rep_is (X := X) I3 kd (Rep.tup hs rr)
      have hlx : xs.length < sizeLine := by rw [← rn.length]; exact hl
      have t03 := ((t1.trans t2).trans t3)
      refine call_setdefault_heap (knd := nestedKind X.prog X.w) (hsz := sz) (by show X.A.units + 1 + 8 < cLine; omega) ky sy d3 (fun p hp => ?_) fun hn h' d' hs' => ?_
      · rcases rn.at (.tup l) with ⟨_, g2⟩ | ⟨q, b', u', v', g1, g2, g3, g4⟩
        · rw [g2] at hp; cases hp
        · rw [g2] at hp; cases hp
          exact ⟨v', H3, I3.tok _, g4, k _ _ _ _ t03 m3 g3 (q3 q g1)⟩
      · rcases rn.at (.tup l) with ⟨g1, _⟩ | ⟨q, b', u', v', _, g2, _, _⟩
        · rw [stored_no hn] at d'
          have hl2 : (xs ++ [(keyOf (.tup l), b, fv)]).length ≤ sizeLine := by rw [List.length_append, List.length_singleton]; omega
          have he : ∃ q, h'.get? a = some q := by
            obtain ⟨o, _, _, q1, _⟩ := d'
            exact ⟨o, q1⟩
          have t4 : Tk X.K H3 (L2.upd H3 a (DNo a X.w (xs ++ [(keyOf (.tup l), b, fv)]))) := .upd (dn_tup hx)
          refine ⟨z, _, I3.write (e := a) (t' := s3.toks + (nestedKind X.prog X.w).draws (keyOf (.tup l))) (by rw [hx]; trivial) (.inl rfl) (fun c uu hc hq => (hs'.2 c hc).trans hq) he (dn_new d' sy hl2), rz0, k _ _ _ _ (t03.trans t4) (m3.put (m := .dN X.w (kvs ++ [(.tup l, pz)])) t4 ⟨_, upd_same, (rn.mono t4).snoc kd ((Rep.tup hs rr).mono t4) (rz.mono t4) rz0⟩) (rz.mono t4) (q4 g1)⟩
        · rw [g2] at hn; cases hn
  | _ => exact u1.elim
end
end PL

set_option Elab.async false
set_option linter.all false
set_option maxRecDepth 100000
set_option maxHeartbeats 4000000
/-! PL34: d.update(a dict); list(d.values()). -/
namespace PL
open PySem L2 PySem.Spec PyProof.Rows
section
variable {X : Cx} {H0 : Hp}
theorem mt_dupd : MtR X "dict.update" fun x xs H Q => ∃ (a b : Addr) (ks ls : List (Key × V)), x = .ref a ∧ xs = [.ref b] ∧ H a = some (.dK ks) ∧ H b = some (.dK ls) ∧ a ≠ b ∧ ks.length + ls.length ≤ sizeLine ∧ Q .non (L2.upd H a (.dK (mergeK ks ls))) := by
  intro pins s σ H x xs v us Q I rx rxs h
  obtain ⟨a, b, ks, ls, rfl, rfl, ha, hb, ne, hl, q⟩ := h
  cases rx
  cases rxs with
  | cons ry rt =>
    cases rt
    cases ry
    obtain ⟨_, sa, va, ra, da⟩ := dk_of I.hok ha
    obtain ⟨_, sb, vb, rb, db⟩ := dk_of I.hok hb
    have l1 := ra.length
    have l2 := rb.length
    refine call_meetsIn PySem.F.slot_dict_update da.typeIs PySem.F.entry_dict_update (PySem.F.args_dict_update_2 _ _) (meets_dict_update (mixKind X.prog X.w) a b ne sb) ⟨va, vb, da, db, by omega, fun h' d' _ hs => ?_⟩
    have lm := length_mergeK ls ks
    have he : ∃ q, h'.get? a = some q := let ⟨q, _, _, hq, _⟩ := d'; ⟨q, hq⟩
    exact ⟨.non, _, d_write (t' := s.toks) I (by rw [ha]; trivial) hs he (dk_new (by omega) sa (rb.merge ra) d'), rfl, q⟩
def updateP : RMp := fun x ps M Q => match x, ps with
  | .ref a, [.ref b] => ∃ kvs more, M a = some (.dK kvs) ∧ M b = some (.dK more) ∧ a ≠ b ∧ kvs.length + more.length ≤ sizeLine ∧ Q .non (updM M a (.dK (mergeP kvs more)))
  | _, _ => False
theorem mUpdate : MtP X "dict.update" updateP := by
  refine ⟨_, mt_dupd, fun x xs H px ps M Q Qp rx rs m u k => ?_⟩
  cases rx with
  | ref a => cases rs with
    | nil => exact u.elim
    | cons r rr => cases rr with
      | cons _ _ => cases r <;> exact u.elim
      | nil => cases r with
        | ref b =>
          obtain ⟨kvs, more, h1, h2, ne, hl, q⟩ := u
          obtain ⟨vs, e1, r1⟩ := m _ _ h1
          obtain ⟨ws, e2, r2⟩ := m _ _ h2
          obtain ⟨t4, m4⟩ := Tk_dK (l := kvs) m e1 (r2.merge r1)
          exact ⟨a, b, vs, ws, rfl, rfl, e1, e2, ne, by rw [← r1.len, ← r2.len]; exact hl, k _ _ _ _ t4 m4 .non q⟩
        | _ => exact u.elim
  | _ => exact u.elim
/-- list(d.values()) -/
@[reducible] def tNVals (w : World) (td : TEp) : TEp := fun σ M Q => td σ M fun x M1 => match x with
  | .ref a => ∃ kvs, M1 a = some (.dN w kvs) ∧ ∀ p, M1 p = none → Q (.ref p) (updM M1 p (.lst (kvs.map (·.2))))
  | _ => False
theorem RepN.vals {K : Kf} {H : Hp} {kvs : List (PV × PV)} {xs : NXs} (r : RepN K H kvs xs) : ∃ vs, Reps K H (kvs.map (·.2)) vs ∧ Vals vs (xs.map (·.2.2)) := by
  induction r with
  | nil => exact ⟨[], .nil, .nil⟩
  | cons d a b c _ ih =>
    obtain ⟨vs, h1, h2⟩ := ih
    exact ⟨_ :: vs, .cons b h1, .cons c h2⟩
theorem pnvals {o : Expr} {td : TEp} {p pos apos mpos : Pos} (hc : X.calm = true) (hg : Gl X "list") (hm : X.mg "list" = none) (ho : PEp X H0 o td) (hbase : attributeBase o "values" X.env (eval o X.env) = eval o X.env := by rfl) (hline : (apos.endLine == mpos.line) = true := by rfl)
    (na : starEach [Expr.Call (.Attribute o "values" apos) [] [] mpos] X.env = (false, eval (Expr.Call (.Attribute o "values" apos) [] [] mpos) X.env) :: starEach [] X.env := by rfl) :
    PEp X H0 (.Call (.Name "list" p) [.Call (.Attribute o "values" apos) [] [] mpos] [] pos) (tNVals X.w td) := by
  refine ⟨fun pins s σ H Q I ⟨σp, M, Qp, t, sr, m, u, k⟩ => ?_⟩
  refine Call_ (ld_blt I hg hm (u := .type "list") (by first | rfl | decide +kernel) ?_ (by first | decide +kernel | decide) (by first | decide +kernel | decide))
  refine callWith_type1 (args_cons (wpAny_Call_method0_late hbase hline (thn (ho.run pins s σ H (fun x H1 => ∃ px M1, Tk X.K H H1 ∧ RelM X.K H1 M1 ∧ Rep X.K H1 px x ∧ (match px with
      | .ref a => ∃ kvs, M1 a = some (.dN X.w kvs) ∧ ∀ p, M1 p = none → Qp (.ref p) (updM M1 p (.lst (kvs.map (·.2))))
      | _ => False)) I ⟨σp, M, _, t, sr, m, u, fun x H1 px M1 t1 m1 rx u1 => ⟨px, M1, t1, m1, rx, u1⟩⟩) fun uv s1 ⟨x, H1, I1, r1, px, M1, t1, m1, rx, u1⟩ => ?_)) na) na rfl
  cases rx with
  | ref a =>
    obtain ⟨kvs, e1, q⟩ := u1
    obtain rfl : uv = Value.ref a := r1
    obtain ⟨xs, hx, rn⟩ := m1 a _ e1
    obtain ⟨d1, sy, sz⟩ := dn_get I1 hx rn
    obtain ⟨es, ep, raw, hes, hev⟩ := d1.raw
    refine ⟨"dict", "dict.values", PySem.F.plainAttrs_dict, PySem.F.slot_dict_values, PySem.F.type_dict_values, d1.typeIs, fun b e => ?_, Calls.callWith_builtin rfl (PySem.evalArgs_none ?_)⟩
    · cases e
      obtain ⟨o, es, ep, q1, q2, _⟩ := d1
      exact ⟨o, q1, q2.2.1⟩
    refine call_meetsIn PySem.F.slot_dict_values raw.typeIs PySem.F.entry_dict_values (PySem.F.args_dict_values_1 _) (meets_dict_values_raw a sy) ⟨⟨es, ep, raw⟩, ?_⟩
    refine args_nil ?_
    have k1 : ∀ b u, s1.heap.get? b = some u → (s1.heap.push { cls := .type "dict_values", data := .fields #[.ref a] }).get? b = some u := fun b u e => Heap.get?_push_of_some _ e
    have I2 : Inv X pins σ H1 { s1 with heap := s1.heap.push { cls := .type "dict_values", data := .fields #[.ref a] } } := I1.kept (t' := s1.toks) k1
    have raw2 : (s1.heap.push { cls := .type "dict_values", data := .fields #[.ref a] }).DictRaw a es ep := raw.at fun o e => k1 _ _ e
    refine PySem.W.kdl_call (KdlSrc.rawValues (r := s1.heap.objs.size) (d := a) (es := es) (ep := ep)) (I1.ok.hd hc) ⟨⟨_, Heap.get?_push_size _ rfl, rfl, rfl⟩, raw2⟩ (by rw [hes]; exact sz) fun h' tk acc' c' hk hl hacc => ?_
    obtain ⟨vs, rv, vv⟩ := rn.vals
    have ea : acc'.toList = xs.map (·.2.2) := by
      refine List.ext_getElem? fun i => ?_
      rw [List.getElem?_map]
      by_cases hi : i < xs.length
      · have hi2 : i < acc'.size := by rw [hacc.1, hes]; exact hi
        obtain ⟨h3, h4⟩ := hacc.2 i acc'[i] (by simp [hi2])
        obtain ⟨y, y1, y2, y3, _⟩ := hev i h3
        rw [y1, Array.getElem?_toList, Array.getElem?_eq_getElem hi2, h4, y3]; rfl
      · rw [List.getElem?_eq_none (by rw [Array.length_toList, hacc.1, hes]; omega), List.getElem?_eq_none (by omega)]; rfl
    have hp := I2.hok.fresh (Nat.le_refl _)
    have vl := vv.length
    rw [← ea] at vv
    have t2 : Tk X.K H1 (L2.upd H1 (s1.heap.push { cls := .type "dict_values", data := .fields #[.ref a] }).objs.size (.lst vs)) := .new hp
    refine ⟨.ref _, _, I2.laid (t' := tk) (o := .lst vs) hk (Nat.le_refl _) ⟨by rw [vl, List.length_map]; exact sz, acc'.toList, c', vv, by rw [Array.toArray_toList]; exact hl⟩, rfl, ?_⟩
    exact k _ _ _ _ (t1.trans t2) (m1.put (m := .lst (kvs.map (·.2))) t2 ⟨vs, upd_same, rv.mono t2⟩) (.ref _) (q _ (m1.fresh hp))
  | _ => exact u1.elim
theorem u16 {n : Nat} (h : n + 64 < cLine) : n + 16 < cLine := by omega
end
end PL

set_option Elab.async false
set_option linter.all false
set_option maxRecDepth 100000
set_option maxHeartbeats 4000000
/-! PL35: list.index of deep data, of truth values. -/
namespace PL
open PySem L2 PySem.Spec PyProof.Rows
section
variable {X : Cx} {K : Kf}
def rIdxP (K : Kf) : V → List V → Hp → VK → Prop := fun x xs H Q => ∃ (a : Addr) (y : V) (d : PyData) (ds : List PyData) (j : Nat) (z : PyData), x = V.ref a ∧ xs = [y] ∧ Dp K H (V.ref a) (.list ds) ∧ Dp K H y d ∧ PyData.plainAll ds = true ∧ d.plain = true ∧ d.depth ≤ 40 ∧ ds[j]? = some z ∧ PyData.eqv z d = true ∧
  (∀ (m : Nat) (z' : PyData), m < j → ds[m]? = some z' → PyData.eqv z' d = false) ∧ Q (.int (j : Nat)) H
theorem mt_idxP (hu : X.A.units + 64 < cLine) : MtR X "list.index" (rIdxP X.K) := by
  rintro pins s σ H x xs v us Q I rx rxs ⟨a, y, d, ds, j, z, e1, e2, hl, hy, pds, pd, dd, hz, hit, miss, q⟩
  subst e1 e2
  cases rx
  cases rxs with
  | cons ry rt =>
    rename_i w0 wt
    cases rt
    obtain ⟨bs, rd⟩ := Dp.reads I d y w0 hy ry
    cases hl with
    | lst hs ha =>
      obtain ⟨its, rv, ⟨⟨c0, c1, c2, c3⟩, m0, look, hc, h1, h2⟩, room⟩ := I.list hs
      simp only at hc h2
      subst hc h2
      obtain ⟨as, ra⟩ := Dp.readsAll I ds _ its ha rv
      have em : its.map (SeqAt.readOf s.heap) = ds := SeqAt.readsAll_map_plain ds its as pds ra
      have el : its.length = ds.length := by rw [← em, List.length_map]
      have lj := (List.getElem?_eq_some_iff.mp hz).1
      have lv := rv.length
      have lz := sizeLine_eq
      have rd_ : ∀ (m : Nat) (hm : m < its.toArray.size) (z' : PyData), ds[m]? = some z' → SeqAt.readOf s.heap its.toArray[m] = z' := by
        intro m hm z' e
        have hm' : m < its.length := by simpa using hm
        rw [← em, List.getElem?_map, List.getElem?_eq_getElem hm', Option.map_some] at e
        simpa using Option.some.inj e
      have sz : j < its.toArray.size := by simpa [el] using lj
      refine call_meets PySem.F.slot_list_index ⟨_, look, rfl⟩ PySem.F.entry_list_index (PySem.F.args_list_index_2 _ _) (SeqAt.list_indexAt a its.toArray m0 c1 c3 w0 (fun u => PyData.eqv (SeqAt.readOf s.heap u) d) j sz (by omega) (by rw [rd_ j sz z hz]; exact hit) fun m hm hlt => ?_)
        ⟨look, SeqAt.items_plain (vs := its.toArray) (by simpa using ra) rd pds pd (by have := Nat.min_le_right (PyData.depthAll ds) d.depth; omega), ⟨.int (j : Nat), H, I.tok _, ⟨_, rfl⟩, q⟩⟩
      have hmd : m < ds.length := by omega
      rw [rd_ m hm _ (List.getElem?_eq_getElem hmd)]
      exact miss m _ hlt (List.getElem?_eq_getElem hmd)
/-- the first place of x in a list of tuples, numbers and texts -/
def indexDP (K : Kf) : RMp := fun x ps M Q => match x, ps with
  | .ref a, [y] => ∃ (l : List PV) (j : Nat), rdL K M a l ∧ TxtD 40 y ∧ (∀ z ∈ l, TxtD 40 z) ∧ l[j]? = some y ∧ (∀ i, i < j → l[i]? ≠ some y) ∧ Q (.int (j : Int)) M
  | _, _ => False
theorem toDs_at {l : List PV} {j : Nat} {z : PyData} (h : (toDs l)[j]? = some z) : ∃ x, l[j]? = some x ∧ z = toD x := by
  rw [toDs_map, List.getElem?_map] at h
  cases e : l[j]? with
  | none => rw [e] at h; cases h
  | some x => rw [e] at h; exact ⟨x, rfl, (Option.some.inj h).symm⟩
theorem mIndexD (hu : X.A.units + 64 < cLine) (hK : X.K = K := by rfl) : MtP X "list.index" (indexDP K) := by
  subst hK
  refine ⟨_, mt_idxP hu, fun x xs H px ps M Q Qp rx rs m u k => ?_⟩
  cases rx with
  | ref a => cases rs with
    | nil => exact u.elim
    | cons r rr => cases rr with
      | cons _ _ => exact u.elim
      | nil =>
        obtain ⟨l, j, h, hy, hl, hj, hno, q⟩ := u
        refine ⟨a, _, _, toDs l, j, _, rfl, rfl, (DpP.lst h (dps_all fun z hz => (hl z hz).pure)).to m (.ref a), hy.pure.dp.to m r, plain_all fun z hz => (hl z hz).pure, hy.pure.plain, hy.pure.depth, by rw [toDs_map, List.getElem?_map, hj]; rfl, (TxtD.eqv hy hy).mpr rfl, fun i z' hi hz => ?_, k _ _ _ _ (Tk.refl _ _) m (.int _) q⟩
        obtain ⟨x, hx, rfl⟩ := toDs_at hz
        cases e : PyData.eqv (toD x) (toD _) with
        | false => rfl
        | true =>
          have := (TxtD.eqv (hl x (List.mem_of_getElem? hx)) hy).mp e
          rw [this] at hx
          exact absurd hx (hno i hi)
  | _ => cases rs <;> exact u.elim
/-- the first place of a truth value -/
def indexBP (K : Kf) : RMp := fun x ps M Q => match x, ps with
  | .ref a, [.bl y] => ∃ (ns : List Bool) (j : Nat), rdL K M a (ns.map PV.bl) ∧ ns[j]? = some y ∧ (∀ i, i < j → ns[i]? ≠ some y) ∧ Q (.int (j : Int)) M
  | _, _ => False
theorem Reps.bls {H : Hp} : ∀ {ns : List Bool} {vs}, Reps K H (ns.map PV.bl) vs → vs = ns.map V.bl
  | [], _, .nil => rfl
  | _ :: _, _, .cons (.bl _) t => by rw [Reps.bls t]; rfl
theorem mIndexB (hK : X.K = K := by rfl) : MtP X "list.index" (indexBP K) := by
  subst hK
  refine ⟨_, mt_index, fun x xs H px ps M Q Qp rx rs m u k => ?_⟩
  cases rx with
  | ref a => cases rs with
    | nil => exact u.elim
    | cons r rr => cases rr with
      | cons _ _ => cases r <;> exact u.elim
      | nil => cases r with
        | bl y =>
          obtain ⟨ns, j, h, h1, h2, q⟩ := u
          obtain ⟨vs, e, rv⟩ := h.to m
          obtain rfl := Reps.bls rv
          refine ⟨a, ns.map V.bl, .bl y, j, .bl y, rfl, rfl, e, rfl, ?_, by rw [List.getElem?_map, h1]; rfl, (beq_self_eq_true y : (y == y) = true), fun i z hi hz => ?_, k _ _ _ _ (Tk.refl _ _) m (.int _) q⟩
          · rw [List.all_eq_true]
            intro z hz
            obtain ⟨n, _, rfl⟩ := List.mem_map.mp hz
            rfl
          · rw [List.getElem?_map] at hz
            cases e3 : ns[i]? with
            | none => rw [e3] at hz; cases hz
            | some n =>
              rw [e3] at hz
              cases hz
              show (n == y) = false
              exact beq_eq_false_iff_ne.mpr fun e => h2 i hi (e ▸ e3)
        | _ => exact u.elim
  | _ => cases rs <;> exact u.elim
end
end PL

set_option Elab.async false
set_option linter.all false
set_option maxRecDepth 100000
set_option maxHeartbeats 4000000
/-! PL36: a < b of deep pure data. -/
namespace PL
open PySem L2
def rLtF (K : Kf) : R2 := fun x y H Q => ∃ d e, Dp K H x d ∧ Dp K H y e ∧ PySem.W.alike d e = true ∧ d ≠ .none ∧ d.depth ≤ 64 ∧ Q (.bl (PySem.W.dataLt d e)) H
def ltDP (_K : Kf) : R2p := fun x y M Q => PureD 40 x ∧ PureD 40 y ∧ PySem.W.alike (toD x) (toD y) = true ∧ toD x ≠ .none ∧ Q (.bl (PySem.W.dataLt (toD x) (toD y))) M
section
variable {X : Cx} {K : Kf}
theorem op_ltF (hu : X.A.units + 64 < cLine) : OpR X (compareOp .Lt) (rLtF X.K) := by
  intro pins s σ H x y v u Q I rx ry h
  obtain ⟨d, e, hd, he, al, nn, dd, q⟩ := h
  obtain ⟨as, r1⟩ := Dp.reads I d x v hd rx
  obtain ⟨bs, r2⟩ := Dp.reads I e y u he ry
  exact PySem.W.rcLt_alike d e X.A s v u as bs r1 r2 al nn (room64 hu dd) X.prog X.w _ _ ⟨.bl _, H, I, rfl, q⟩
theorem opLtD (hu : X.A.units + 64 < cLine) (hK : X.K = K := by rfl) : OpP X (compareOp .Lt) (ltDP K) := by
  subst hK
  refine ⟨_, op_ltF hu, fun x y H px py M Q Qp rx ry m u k => ?_⟩
  obtain ⟨h1, h2, al, nn, q⟩ := u
  exact ⟨_, _, h1.dp.to m rx, h2.dp.to m ry, al, nn, Nat.le_trans h1.depth (by decide), k _ _ _ _ (Tk.refl _ _) m (.bl _) q⟩
/-- x in l, by what they read as -/
def inRP (K : Kf) (neg : Bool) : R2p := fun x y M Q => match y with
  | .ref a => ∃ l d ds, rdL K M a l ∧ DpP K M x d ∧ DpsP K M l ds ∧ d.plain = true ∧ d.depth ≤ 40 ∧ PyData.plainAll ds = true ∧ Q (.bl (if neg then !(ds.any fun z => PyData.eqv z d) else ds.any fun z => PyData.eqv z d)) M
  | _ => False
theorem inR_sim {neg : Bool} : SimR K (rInF K neg) (inRP K neg) := fun x y H px py M Q Qp rx ry m u k => by
  cases ry with
  | ref a =>
    obtain ⟨l, d, ds, h, hx, hl, pd, dd, pl, q⟩ := u
    exact ⟨d, ds, hx.to m rx, (DpP.lst h hl).to m (.ref a), pd, dd, pl, k _ _ _ _ (Tk.refl _ _) m (.bl _) q⟩
  | _ => exact u.elim
theorem opInR (hu : X.A.units + 64 < cLine) (hK : X.K = K := by rfl) : OpP X (compareOp .In) (inRP K false) := hK ▸ ⟨_, op_inF hu, inR_sim⟩
theorem opNotInR (hu : X.A.units + 64 < cLine) (hK : X.K = K := by rfl) : OpP X (compareOp .NotIn) (inRP K true) := hK ▸ ⟨_, op_notInF hu, inR_sim⟩
end
end PL

set_option Elab.async false
set_option linter.all false
set_option maxRecDepth 100000
set_option maxHeartbeats 4000000
/-! PL37: len(set(l)), the items of l being nested tuples. -/
namespace PL
open PySem L2 PySem.Spec PyProof.Rows
section
variable {P : Program} {w : World}
/-! ### what a search asks of a key -/
theorem hashes_by (w : World) : ∀ (n : Nat) {s : Shared} {k : NestedKey} {v : Value} {A : Around} {E : Value → Shared → Prop} {Q : Bool → Shared → Prop}, NestedIs s.heap k v → (∀ b, Q b s) → wpAny (model P w) A (hashByValue n v) Q E s := by
  intro n
  induction n with
  | zero => intro s k v A E Q hk q; cases hk <;> (unfold hashByValue; exact wpAny_pure (q _))
  | succ n ih =>
    intro s k v A E Q hk q
    cases hk with
    | @tup a o vs m ks at_ cl da al =>
      unfold hashByValue
      refine wpAny_bind (wpAny_specialOf (T := "tuple") ⟨o, at_, cl⟩ F.slot_tuple_hash.lookup ?_)
      refine wpAny_bind (m := seqItems? (.ref a)) (wpAny_seqItems at_ da (wpAny_bind ?_))
      change wpAny _ _ (forIn vs _ _) _ _ s
      rw [← Array.forIn_toList]
      refine wpAny_mono (wpAny_forIn_list _ (fun l (r : Option Bool × Unit) t => r.1 = none ∧ t = s ∧ ∃ ks', NestedAll s.heap ks' l) (fun _ t => t = s) ?_ (fun _ _ i => i.2.1) vs.toList _ ⟨rfl, rfl, ks, al⟩) (fun r t et => ?_) fun _ _ z => z
      · rintro x l r t ⟨_, rfl, ks', al'⟩
        cases al' with
        | cons hx hl =>
          refine wpAny_bind (ih hx fun b => ?_)
          cases b
          · exact wpAny_pure rfl
          · exact wpAny_pure ⟨rfl, rfl, _, hl⟩
      · subst et
        obtain ⟨r1, r2⟩ := r
        cases r1 <;> exact wpAny_pure (q _)
    | _ => unfold hashByValue; exact wpAny_pure (q _)
theorem no_class : ∀ (n : Nat) {s : Shared} {k : NestedKey} {v : Value} {A : Around} {E : Value → Shared → Prop} {Q : Bool → Shared → Prop}, NestedIs s.heap k v → k.depth ≤ n → Q false s → wpAny (model P w) A (ofAClassStatement n v) Q E s := by
  intro n
  induction n with
  | zero =>
    intro s k v A E Q hk hn q
    cases hk with
    | tup => exact absurd hn (Nat.not_succ_le_zero _)
    | _ => unfold ofAClassStatement; exact wpAny_pure q
  | succ n ih =>
    intro s k v A E Q hk hn q
    cases hk with
    | @tup a o vs m ks at_ cl da al =>
      unfold ofAClassStatement
      refine wpAny_bind (wpAny_typeOf (T := "tuple") ⟨o, at_, cl⟩ ?_)
      dsimp only
      rw [if_pos (show (("tuple" : String) == "tuple") = true by decide)]
      refine wpAny_bind (wpAny_pure ?_)
      rw [if_neg (show ¬ (!true) = true by decide)]
      refine wpAny_bind (m := seqItems? (.ref a)) (wpAny_seqItems at_ da ?_)
      dsimp only
      refine wpAny_bind ?_
      change wpAny _ _ (forIn vs _ _) _ _ s
      rw [← Array.forIn_toList]
      refine wpAny_mono (wpAny_forIn_list _ (fun l (r : Option Bool × Unit) t => r.1 = none ∧ t = s ∧ ∃ ks', NestedAll s.heap ks' l ∧ NestedKey.depthAll ks' ≤ n) (fun r t => r.1 = none ∧ t = s) ?_ (fun _ _ i => ⟨i.1, i.2.1⟩) vs.toList _ ⟨rfl, rfl, ks, al, Nat.le_of_succ_le_succ hn⟩) (fun r t et => ?_) fun _ _ z => z
      · rintro x l r t ⟨_, rfl, ks', al', dl⟩
        cases al' with
        | cons hx hl =>
          obtain ⟨d1, d2⟩ := Nat.max_le.mp dl
          refine wpAny_bind (ih hx d1 ?_)
          exact wpAny_pure ⟨rfl, rfl, _, hl, d2⟩
      · obtain ⟨r1, r2⟩ := r
        obtain ⟨rfl, rfl⟩ := et
        exact wpAny_pure q
    | _ => unfold ofAClassStatement; exact wpAny_pure q
variable {A : Around} {E : Value → Shared → Prop} {s : Shared}
/-- the tuple at a is the key k -/
abbrev NK (h : Heap) (k : NestedKey) (a : Addr) : Prop := NestedIs h k (.ref a) ∧ k.depth ≤ 8
theorem unseen {k : NestedKey} {x : Addr} {Q : Bool → Shared → Prop} (hk : NK s.heap k x) (ys : List Value) (hy : ∀ y ∈ ys, ∃ c k', y = Value.ref c ∧ NK s.heap k' c) (q : Q false s) : wpAny (model P w) A (searchCouldBeSeen (.ref x) ys) Q E s := by
  have ask : ∀ {c : Addr} {k' : NestedKey} {R : Bool → Shared → Prop}, NK s.heap k' c → R true s → wpAny (model P w) A (eqIsQuiet 8 (.ref c)) R E s := fun z r => quiet_key _ _ 8 s z.1 z.2 _ _ _ r
  unfold searchCouldBeSeen
  refine wpAny_bind (wpAny_mono (wpAny_forIn_list _ (fun l (r : Option Bool × Unit) t => r.1 = none ∧ t = s ∧ ∀ y ∈ l, ∃ c k', y = Value.ref c ∧ NK s.heap k' c) (fun r t => r.1 = none ∧ t = s) ?_ (fun _ _ i => ⟨i.1, i.2.1⟩) ys _ ⟨rfl, rfl, hy⟩) (fun r t et => ?_) fun _ _ z => z)
  · rintro y l r t ⟨_, rfl, all⟩
    obtain ⟨c, k', rfl, hc⟩ := all y List.mem_cons_self
    have on : ∀ z ∈ l, ∃ c k', z = Value.ref c ∧ NK t.heap k' c := fun z hz => all z (List.mem_cons_of_mem _ hz)
    dsimp only
    cases hv : (x == c || (carriedByValue (.ref x) && carriedByValue (.ref c))) with
    | true => exact wp_if_pos rfl (wpAny_pure ⟨rfl, rfl, on⟩)
    | false =>
      refine wp_if_neg (by decide) (wpAny_bind (ask hk (wp_if_neg (by decide) (wpAny_bind (ask hc (wp_if_neg (by decide) ?_))))))
      exact wpAny_bind (no_class 8 hk.1 hk.2 (wp_if_neg (by decide) (wpAny_bind (no_class 8 hc.1 hc.2 (wp_if_neg (by decide) (wpAny_pure ⟨rfl, rfl, on⟩))))))
  · obtain ⟨r1, r2⟩ := r
    obtain ⟨rfl, rfl⟩ := et
    exact wpAny_pure q
/-! ### the set -/
abbrev Ks := List (Addr × NestedKey)
def rowN (w : World) (L : Ks) : List (Int × Value) := L.map fun z => (z.2.hash w, Value.ref z.1)
def hsN (w : World) (L : Ks) : List Int := L.map fun z => z.2.hash w
structure SN (w : World) (h : Heap) (a : Addr) (L : Ks) (es : Array (Int × Value)) (ep : Nat) (t : SetTable) : Prop where
  obj : ∃ o, h.get? a = some o ∧ o.ExactSet ∧ o.data = .set es ep t
  row : es.toList = rowN w L
  tab : TabOk t (hsN w L)
  one : (L.map Prod.snd).Nodup
  key : ∀ z ∈ L, NK h z.2 z.1
  wide : L.length * 5 < t.mask * 3
variable {a x : Addr} {k : NestedKey} {L : Ks} {es : Array (Int × Value)} {ep : Nat} {t : SetTable}
theorem row_len (h : es.toList = rowN w L) : es.size = L.length := by
  have e : es.toList.length = (rowN w L).length := congrArg _ h
  simpa [rowN] using e
theorem row_at (h : es.toList = rowN w L) {i : Nat} {z : Addr × NestedKey} (e : L[i]? = some z) : es[i]? = some (z.2.hash w, Value.ref z.1) := by
  have e2 : es.toList[i]? = some (z.2.hash w, Value.ref z.1) := by rw [h]; unfold rowN; rw [List.getElem?_map, e]; rfl
  simpa using e2
theorem len_hs (L : Ks) : (hsN w L).length = L.length := by simp [hsN]
theorem hs_at {i : Nat} {z : Addr × NestedKey} (e : L[i]? = some z) : (hsN w L)[i]? = some (z.2.hash w) := by unfold hsN; rw [List.getElem?_map, e]; rfl
theorem fits_of {t : SetTable} {n : Nat} (h1 : t.place.size = n) (h2 : t.dummies = #[]) (h3 : n ≤ t.mask) : t.fits n = true := by
  simp only [SetTable.fits, SetTable.fill, h1, h2, Bool.and_eq_true, beq_iff_eq, decide_eq_true_eq]
  exact ⟨by first | rfl | trivial, h3⟩
theorem SN.size (N : SN w s.heap a L es ep t) : t.place.size = L.length := N.tab.sz.trans (len_hs L)
theorem SN.fits (N : SN w s.heap a L es ep t) : t.fits es.size = true := by
  have hw := N.wide
  refine fits_of (N.size.trans (row_len N.row).symm) N.tab.dm ?_
  rw [row_len N.row]; omega
theorem not_gone {t : SetTable} (h : MaskOk t.mask) : ¬ t.gaveWay = true := by
  unfold SetTable.gaveWay
  rcases h with e | e | e <;> rw [e] <;> decide
abbrev stepN (m : Nat) (H : Int) (c : Nat) : SetTable.Probe := nth m (runAt m (SetTable.bits H % (m + 1)) (SetTable.bits H)) c
theorem stepN_on (m : Nat) (H : Int) (c q : Nat) : nth m (stepN m H c) q = stepN m H (c + q) := (nth_add m c _ q).symm
theorem nth_clear (m : Nat) : ∀ (n : Nat) (p : SetTable.Probe), p.dummy = none → (nth m p n).dummy = none
  | 0, _, h => h
  | n + 1, p, h => nth_clear m n _ (by unfold adv; split <;> exact h)
theorem all_same (t : SetTable) : t.sameMemory t.moves t.mask = some true := if_pos (beq_self_eq_true t.moves)
theorem turns_few {m : Nat} (h : MaskOk m) : 10 * SetTable.turns m < 100000 := by
  unfold SetTable.turns
  rcases h with e | e | e <;> omega
/-- the search, from the c-th place of the key's way -/
theorem look_from (N : SN w s.heap a L es ep t) (hx : NK s.heap k x) (room : A.units + 8 < cLine) {H : Int} (eH : k.hash w = H) {K : Nat} (kf : K < 10 * SetTable.turns t.mask) (free : way t.mask H K ∉ t.place.toList) (busy : ∀ c, c < K → way t.mask H c ∈ t.place.toList)
    {Q : SetFound → Shared → Prop} (yes : k ∈ L.map Prod.snd → Q (.there none) s) (no : k ∉ L.map Prod.snd → Q (.free (way t.mask H K) false) s) (f : Nat) :
    ∀ (c : Nat) (st : Option SetTable.Probe), c ≤ K → K < f + c → st.getD (t.probeStart H) = stepN t.mask H c → (∀ (i : Nat) z, L[i]? = some z → z.2 = k → ∃ c', (c ≤ c' ∧ c' < K) ∧ t.place.toList[i]? = some (way t.mask H c')) →
      wpAny (model P w) A (setSearchFrom a (.ref x) H true f st) Q E s := by
  induction f with
  | zero => intro c st h1 h2; omega
  | succ f ih =>
    intro c st h1 h2 est ahead
    obtain ⟨o, ho, _, hd⟩ := N.obj
    have state : ∀ {R : Array (Int × Value) × Nat × SetTable → Shared → Prop}, R (es, ep, t) s → wpAny (model P w) A (setState a) R E s := fun r => wpAny_setState_of ho hd N.fits r
    have way_at : ∀ q, (nth t.mask (stepN t.mask H c) q).j = way t.mask H (c + q) := fun q => by rw [stepN_on]
    have hash_at : ∀ (i : Nat) z, L[i]? = some z → (es[i]?.map (·.1)).getD 0 = z.2.hash w := fun i z e => by rw [row_at N.row e]; rfl
    rw [setSearchFrom_succ]
    refine wpAny_bind (state (wp_if_neg (not_gone N.tab.mok) ?_))
    try refine wpAny_bind (wpAny_pure ?_)
    have met := go_spec t N.tab.ris N.tab.dm (fun i => (es[i]?.map (·.1)).getD 0) H (10 * SetTable.turns t.mask) (K - c) (stepN t.mask H c) (nth_clear _ c _ rfl) (by omega) (fun q hq => way_at q ▸ busy (c + q) (by omega)) (by rw [way_at, Nat.add_sub_cancel' h1]; exact free)
    have probe_eq : t.probe (fun i => (es[i]?.map (·.1)).getD 0) H (st.getD (t.probeStart H)) = SetTable.probe.go t (fun i => (es[i]?.map (·.1)).getD 0) H (10 * SetTable.turns t.mask) (stepN t.mask H c) := by rw [est]; rfl
    rcases met with ⟨q, i, hq, at_, eqh, first_, go⟩ | ⟨none_, go⟩
    · rw [probe_eq, go]
      dsimp only
      rw [way_at] at at_ ⊢
      rw [stepN_on]
      have inL : i < L.length := by
        have g := (List.getElem?_eq_some_iff.mp at_).1
        rw [Array.length_toList, N.size] at g
        exact g
      obtain ⟨z, ez⟩ : ∃ z, L[i]? = some z := ⟨L[i], List.getElem?_eq_getElem inL⟩
      have mem : z ∈ L := List.mem_of_getElem? ez
      have cand : wpAny (model P w) A (searchRest a (.ref x) H true f es t (way t.mask H (c + q)) i (stepN t.mask H (c + (q + 1)))) Q E s := by
        unfold searchRest
        rw [row_at N.row ez]
        dsimp only
        refine wpAny_bind (wpAny_holding ((nestedKind P w).eqBool room (N.key z mem) hx (wpAny_bind (state ?_))))
        dsimp only
        by_cases same : z.2 = k
        · exact wp_if_pos (by simp [same]) (wpAny_pure (yes (same ▸ List.mem_map_of_mem mem)))
        · refine wp_if_neg (by simp [same]) ?_
          try refine wpAny_bind (wpAny_pure ?_)
          have live := slot_live N.tab.ris at_
          rw [all_same]
          dsimp only
          simp only [if_true, live, row_at N.row ez]
          refine wpAny_bind (wpAny_isSame_ref_self (wpAny_bind (wpAny_pure ?_)))
          simp only [if_true]
          refine wp_if_neg (by simp [same]) (ih (c + (q + 1)) _ (by omega) (by omega) rfl fun i0 z0 h0 hk0 => ?_)
          obtain ⟨c', ⟨b1, b2⟩, b3⟩ := ahead i0 z0 h0 hk0
          refine ⟨c', ⟨?_, b2⟩, b3⟩
          have notq : c' ≠ c + q := fun e => by
            rw [e] at b3
            have l2 := slot_live N.tab.ris b3
            rw [live] at l2
            injection l2 with l2
            subst l2
            exact same (Option.some.inj (ez.symm.trans h0) ▸ hk0)
          have notless : ¬ c' < c + q := fun e => first_ (c' - c) i0 (by omega) (by rw [way_at, Nat.add_sub_cancel' b1]; exact b3) (by rw [hash_at i0 z0 h0, hk0, eH])
          omega
      cases led : t.led with
      | true => exact wp_if_neg (by decide) (by first | exact cand | exact wpAny_bind (wpAny_pure cand))
      | false =>
        refine wp_if_pos rfl (wpAny_bind (unseen hx _ (fun y hy => ?_) (wp_if_neg (by decide) (by first | exact cand | exact wpAny_bind (wpAny_pure cand)))))
        obtain ⟨e, he, rfl⟩ := List.mem_map.mp hy
        have he2 : e ∈ es.toList := by
          have g : e ∈ es ∧ e.1 = H := by simpa using he
          simpa using g.1
        rw [N.row] at he2
        obtain ⟨z2, m2, rfl⟩ := List.mem_map.mp he2
        exact ⟨z2.1, z2.2, rfl, N.key z2 m2⟩
    · rw [probe_eq, go]
      dsimp only
      rw [way_at, Nat.add_sub_cancel' h1]
      refine wpAny_pure (no fun hm => ?_)
      obtain ⟨z0, m0, hk0⟩ := List.mem_map.mp hm
      obtain ⟨i0, e0⟩ := List.getElem?_of_mem m0
      obtain ⟨c', ⟨b1, b2⟩, b3⟩ := ahead i0 z0 e0 hk0
      exact none_ (c' - c) i0 (by omega) (by rw [way_at, Nat.add_sub_cancel' b1]; exact b3) (by rw [hash_at i0 z0 e0, hk0, eH])
theorem look_at (N : SN w s.heap a L es ep t) (hx : NK s.heap k x) (room : A.units + 8 < cLine) {Q : SetFound → Shared → Prop} (yes : k ∈ L.map Prod.snd → Q (.there none) s)
    (no : ∀ K, k ∉ L.map Prod.snd → way t.mask (k.hash w) K ∉ t.place.toList → (∀ c, c < K → way t.mask (k.hash w) c ∈ t.place.toList) → Q (.free (way t.mask (k.hash w) K) false) s) :
    wpAny (model P w) A (setSearch a (.ref x) (k.hash w) true) Q E s := by
  have hw := N.wide
  obtain ⟨K, kf, free, busy⟩ := N.tab.first (by rw [len_hs]; omega) (k.hash w)
  have tf := turns_few N.tab.mok
  refine look_from N hx room rfl kf free busy yes (fun n => no K n free busy) 100000 0 none (Nat.zero_le _) (by omega) rfl fun i z ez hz => ?_
  have inP : i < t.place.toList.length := by
    rw [Array.length_toList, N.size]
    exact (List.getElem?_eq_some_iff.mp ez).1
  obtain ⟨c, b1, b2⟩ := N.tab.before free (hz ▸ hs_at ez) (List.getElem?_eq_getElem inP)
  exact ⟨c, ⟨Nat.zero_le c, b1⟩, by rw [b2]; exact List.getElem?_eq_getElem inP⟩
/-! ### adding -/
theorem range_all {α : Type} : ∀ L : List α, (List.range L.length).filterMap (fun i => L[i]?) = L
  | [] => rfl
  | z :: L => by
    rw [List.length_cons, List.range_succ_eq_map]
    simp only [List.filterMap_cons, List.getElem?_cons_zero, List.filterMap_map]
    exact congrArg (z :: ·) (range_all L)
theorem row_back (L : Ks) (es : Array (Int × Value)) (order : Array Nat) (hr : es.toList = rowN w L) (hp : order.toList.Perm (List.range L.length)) :
    ∃ L2, (order.filterMap (es[·]?)).toList = rowN w L2 ∧ L2.Perm L ∧ hsN w L2 = order.toList.map fun i => (es.map (·.1)).getD i 0 := by
  have at_ : ∀ i : Nat, es[i]? = (L[i]?).map fun z : Addr × NestedKey => (z.2.hash w, Value.ref z.1) := fun i => by
    rw [← Array.getElem?_toList, hr]; unfold rowN; rw [List.getElem?_map]
  refine ⟨order.toList.filterMap (fun i => L[i]?), ?_, ?_, ?_⟩
  · have e : (order.filterMap (es[·]?)).toList = order.toList.filterMap (fun i => es[i]?) := by simp
    rw [e]; unfold rowN; rw [List.map_filterMap]
    exact congrArg (fun g => List.filterMap g order.toList) (funext at_)
  · have g := hp.filterMap (fun i => L[i]?)
    rw [range_all] at g
    exact g
  · have all : ∀ i ∈ order.toList, i < L.length := fun i hi => List.mem_range.mp (hp.mem_iff.mp hi)
    generalize order.toList = l at all
    induction l with
    | nil => rfl
    | cons i l ih =>
      have lt : i < L.length := all i List.mem_cons_self
      have hi : L[i]? = some L[i] := List.getElem?_eq_getElem lt
      have e : (es.map (·.1)).getD i 0 = L[i].2.hash w := by
        rw [Array.getD_eq_getD_getElem?, Array.getElem?_map, at_ i, hi]; rfl
      rw [List.filterMap_cons_some hi, List.map_cons, e, ← ih fun j hj => all j (List.mem_cons_of_mem _ hj)]
      rfl
theorem nk_same {h h' : Heap} {k : NestedKey} {a b : Addr} {o : Obj} {es : Array (Int × Value)} {ep : Nat} {t : SetTable} (hb : NK h k b) (ho : h.get? a = some o) (hd : o.data = .set es ep t) (hs : Heap.SameBut a h h') : NK h' k b :=
  ⟨NestedIs.at (fun c u vs n hc hu => (hs.2 c fun e => by
    subst e
    rw [Option.some.inj (ho.symm.trans hc), hu] at hd
    cases hd).trans hc) k _ hb.1, hb.2⟩
theorem nk_keep {h h' : Heap} {k : NestedKey} {b : Addr} (hb : NK h k b) (kp : ∀ c o, h.get? c = some o → h'.get? c = some o) : NK h' k b := ⟨NestedIs.at (fun c u _ _ hc _ => kp c u hc) k _ hb.1, hb.2⟩
theorem small_line {n : Nat} (h : n < 100) : n ≤ sizeLine := by rw [sizeLine_eq]; omega
theorem relay_to {o : Obj} (ho : s.heap.get? a = some o) (hex : o.ExactSet) (hd : o.data = .set es ep t) (row : es.toList = rowN w L) (hsz : t.place.size = L.length) (hdm : t.dummies = #[]) (hfl : L.length ≤ t.mask)
    (one : (L.map Prod.snd).Nodup) (key : ∀ z ∈ L, NK s.heap z.2 z.1) (few : L.length < 64) {want M : Nat} (hM : MaskOk M) (hw : SetTable.sizeAbove want = M + 1) (hn : L.length * 5 < M * 3) {Q : Unit → Shared → Prop}
    (q : ∀ h' L' es' ep' t', Heap.SameBut a s.heap h' → SN w h' a L' es' ep' t' → L'.Perm L → Q () { s with heap := h' }) : wpAny (model P w) A (setRelay a want) Q E s := by
  have size : es.size = L.length := row_len row
  obtain ⟨t', order, e, pm, T, em, _, _, _⟩ := relaid_ok t (hs := es.map (·.1)) (wanted := want) (M := M) (by rw [hw]; rfl) hM (by rw [Array.size_map, size]; omega)
  rw [Array.size_map, size] at pm
  obtain ⟨L2, r1, r2, r3⟩ := row_back L es order row pm
  have size2 : (order.filterMap (es[·]?)).size = L2.length := row_len r1
  rw [← r3] at T
  have l2 := r2.length_eq
  have big : ¬ SetTable.sizeAbove want > sizeLine := by
    rw [hw, sizeLine_eq]
    rcases hM with z | z | z <;> omega
  rw [setRelay_eq]
  refine wpAny_bind (wpAny_setState_of ho hd (fits_of (hsz.trans size.symm) hdm (by rw [size]; exact hfl)) (wp_if_neg big ?_))
  try refine wpAny_bind (wpAny_pure ?_)
  rw [e]
  refine wpAny_bind (wp_if_neg (by rw [size2, l2, size]; simp) ?_)
  try refine wpAny_bind (wpAny_pure ?_)
  refine wpAny_pure (wpAny_storeSet_of ho hd ?_ (small_line (by rw [size2, l2]; omega)))
  have alone : Heap.SameBut a s.heap (s.heap.update a (Obj.putSet (order.filterMap (es[·]?)) t')) := Heap.SameBut.update ..
  refine q _ L2 _ (ep + 1) t' alone ⟨⟨_, store_at ho hd, ⟨hex.1, hex.2.1, hex.2.2⟩, rfl⟩, r1, T, (r2.map Prod.snd).nodup_iff.mpr one, fun z hz => nk_same (key z (r2.mem_iff.mp hz)) ho hd alone, by rw [l2, em]; exact hn⟩ r2
theorem add_to (N : SN w s.heap a L es ep t) (hx : NK s.heap k x) (room : A.units + 8 < cLine) (few : L.length + 1 < 64) {Q : Bool → Shared → Prop}
    (q : ∀ b h' L' es' ep' t', Heap.SameBut a s.heap h' → SN w h' a L' es' ep' t' → (k ∈ L.map Prod.snd ∧ L' = L ∨ k ∉ L.map Prod.snd ∧ L'.Perm ((x, k) :: L)) → Q b { s with heap := h' }) :
    wpAny (model P w) A (setAddHashed a (.ref x) (k.hash w)) Q E s := by
  obtain ⟨o, ho, hex, hd⟩ := N.obj
  have size := row_len N.row
  have state : ∀ {A : Around} {R : Array (Int × Value) × Nat × SetTable → Shared → Prop}, R (es, ep, t) s → wpAny (model P w) A (setState a) R E s := fun r => wpAny_setState_of ho hd N.fits r
  unfold setAddHashed
  refine wpAny_holding ?_
  rw [show (100000 : Nat) = Nat.succ 99999 from rfl, setAddHashedIn_succ]
  refine wpAny_bind (state (wp_if_neg (by simp [byScan, Value.scannable]) ?_))
  try refine wpAny_bind (wpAny_pure ?_)
  refine wpAny_bind (look_at N hx room (fun yes => wpAny_pure (q false s.heap L es ep t (Heap.SameBut.refl a s.heap) N (.inl ⟨yes, rfl⟩))) fun K no free busy => ?_)
  refine wpAny_bind (state ?_)
  obtain ⟨c1, c2, c3, c4, _, c6, _, _, c9⟩ := N.tab.put free busy
  rw [len_hs] at c2
  dsimp only
  generalize hpt : t.put (way t.mask (k.hash w) K) = both at c1 c3 c4 c6 c9 ⊢
  obtain ⟨t1, p⟩ := both
  dsimp only at c1 c3 c4 c6 c9 ⊢
  rw [← c1] at c2 c3
  generalize hL1 : L.take p ++ (x, k) :: L.drop p = L1
  have pm : L1.Perm ((x, k) :: L) := by
    have g : (L.take p ++ (x, k) :: L.drop p).Perm ((x, k) :: (L.take p ++ L.drop p)) := List.perm_middle
    rw [hL1, List.take_append_drop] at g
    exact g
  have len1 : L1.length = L.length + 1 := pm.length_eq
  have hs1 : hsN w L1 = (hsN w L).take p ++ k.hash w :: (hsN w L).drop p := by
    rw [← hL1]; unfold hsN; rw [List.map_append, List.map_cons, List.map_take, List.map_drop]
  rw [← hs1] at c3
  have one1 : (L1.map Prod.snd).Nodup := (pm.map Prod.snd).nodup_iff.mpr (List.nodup_cons.mpr ⟨no, N.one⟩)
  have row1 : (SetTable.insertAt es p (k.hash w, Value.ref x)).toList = rowN w L1 := by
    rw [SetTable.toList_insertAt, N.row, ← hL1]; unfold rowN; rw [List.map_append, List.map_cons, List.map_take, List.map_drop]
  generalize SetTable.insertAt es p (k.hash w, Value.ref x) = es1 at row1 ⊢
  have size1 : es1.size = L.length + 1 := (row_len row1).trans len1
  -- whatever is told of the hash, the rest goes alike
  have rest : ∀ t2 : SetTable, t2.place = t1.place → t2.dummies = t1.dummies → t2.mask = t1.mask → (t2.tooFull = true ↔ t1.tooFull = true) → TabOk t2 (hsN w L1) → wpAny (model P w) A (do
      storeSet a es1 t2
      if !false && t2.tooFull then setRelay a (SetTable.grown (es.size + 1))
      return true) Q E s := fun t2 p1 p2 p3 p4 T => by
    refine wpAny_bind (wpAny_storeSet_of ho hd ?_ (small_line (by omega)))
    have sb : Heap.SameBut a s.heap (s.heap.update a (Obj.putSet es1 t2)) := Heap.SameBut.update ..
    have ho1 := store_at (ep := ep) (es := es) (es' := es1) (t' := t2) ho hd
    generalize s.heap.update a (Obj.putSet es1 t2) = h1 at sb ho1 ⊢
    have key1 : ∀ z ∈ L1, NK h1 z.2 z.1 := fun z hz => by
      rcases List.mem_cons.mp (pm.mem_iff.mp hz) with e | hz
      · exact e ▸ nk_same hx ho hd sb
      · exact nk_same (N.key z hz) ho hd sb
    have full : t2.tooFull = true ↔ (L.length + 1) * 5 ≥ t.mask * 3 := by
      rw [p4]
      unfold SetTable.tooFull
      rw [decide_eq_true_eq, c9, len_hs, c4]
    have mk := N.tab.mok
    have hw := N.wide
    by_cases hf : (L.length + 1) * 5 ≥ t.mask * 3
    · have go : ∀ M, SetTable.sizeAbove (SetTable.grown (L.length + 1)) = M + 1 → MaskOk M → (L.length + 1) * 5 < M * 3 → wpAny (model P w) A (do setRelay a (SetTable.grown (es.size + 1)); return true) Q E { s with heap := h1 } := fun M g1 g2 g3 => by
        refine wpAny_bind (relay_to (s := { s with heap := h1 }) ho1 ⟨hex.1, hex.2.1, hex.2.2⟩ rfl row1 (by rw [p1, c3.sz, len_hs]) (p2.trans c3.dm) (by rw [p3, c4, len1]; rcases mk with z | z | z <;> omega) one1 key1 (by omega) g2 (by rw [size]; exact g1) (by rw [len1]; exact g3) fun h2 L2 es2 ep2 t3 sb2 N2 pm2 => ?_)
        exact wpAny_pure (q true h2 L2 es2 ep2 t3 (sb.trans sb2) N2 (.inr ⟨no, pm2.trans pm⟩))
      have now : wpAny (model P w) A (do setRelay a (SetTable.grown (es.size + 1)); return true) Q E { s with heap := h1 } := by
        rcases mk with z | z | z
        · have l4 : L.length = 4 := by omega
          exact go 31 (by rw [l4]; exact size_20) (.inr (.inl rfl)) (by omega)
        · have l18 : L.length = 18 := by omega
          exact go 127 (by rw [l18]; exact size_76) (.inr (.inr rfl)) (by omega)
        · omega
      have yes : (!false && t2.tooFull) = true := by rw [full.mpr hf]; rfl
      first
        | exact wp_if_pos yes now
        | (rw [if_pos yes]; exact now)
    · have no2 : ¬ (!false && t2.tooFull) = true := fun e => hf (full.mp (by simpa using e))
      have fin : wpAny (model P w) A (pure true) Q E { s with heap := h1 } := wpAny_pure (q true h1 L1 es1 (ep + 1) t2 sb ⟨⟨_, ho1, ⟨hex.1, hex.2.1, hex.2.2⟩, rfl⟩, row1, T, one1, key1, by rw [p3, c4, len1]; omega⟩ (.inr ⟨no, pm⟩))
      first
        | exact wp_if_neg no2 fin
        | exact wp_if_neg no2 (wpAny_bind (wpAny_pure fin))
        | exact wpAny_bind (wp_if_neg no2 (wpAny_pure fin))
  have off : TabOk { t1 with plain := false } (hsN w L1) := ⟨c3.ris, c3.dm, c3.sz, c3.mok, c3.bd, c3.reach⟩
  cases hpl : t1.plain with
  | true =>
    refine wp_if_pos rfl (wpAny_bind (hashes_by w 8 hx.1 fun b => ?_))
    cases b
    · exact rest { t1 with plain := false } rfl rfl rfl Iff.rfl off
    · exact rest t1 rfl rfl rfl Iff.rfl c3
  | false =>
    refine wp_if_neg (by decide) ?_
    first
      | exact rest t1 rfl rfl rfl Iff.rfl c3
      | exact wpAny_bind (wpAny_pure (rest t1 rfl rfl rfl Iff.rfl c3))
/-! ### set(l) -/
/-- what the set has got when the keys ks are met -/
structure GotN (ks : List NestedKey) (L : Ks) : Prop where
  mem : ∀ k, k ∈ L.map Prod.snd ↔ k ∈ ks
  le : L.length ≤ ks.length
  all : L.length = ks.length ↔ ks.Nodup
theorem GotN.nil : GotN [] [] := ⟨fun _ => Iff.rfl, Nat.le_refl 0, fun _ => List.nodup_nil, fun _ => rfl⟩
theorem snoc_nodup {α : Type} {l : List α} {x : α} : (l ++ [x]).Nodup ↔ l.Nodup ∧ x ∉ l := by
  have pm : (l ++ [x]).Perm (x :: l) := by
    have g : (l ++ x :: []).Perm (x :: (l ++ [])) := List.perm_middle
    rwa [List.append_nil] at g
  rw [pm.nodup_iff, List.nodup_cons]
  exact And.comm
theorem GotN.add {ks : List NestedKey} {L L' : Ks} (g : GotN ks L) (h : k ∈ L.map Prod.snd ∧ L' = L ∨ k ∉ L.map Prod.snd ∧ L'.Perm ((x, k) :: L)) : GotN (ks ++ [k]) L' := by
  have ln : (ks ++ [k]).length = ks.length + 1 := by simp
  have hl := g.le
  rcases h with ⟨m, rfl⟩ | ⟨m, pm⟩
  · have m2 := (g.mem k).mp m
    refine ⟨fun j => ?_, by omega, fun e => ?_, fun e => absurd m2 (snoc_nodup.mp e).2⟩
    · rw [g.mem, List.mem_append, List.mem_singleton]
      exact ⟨.inl, fun z => z.elim id fun e => e ▸ m2⟩
    · omega
  · have m2 : k ∉ ks := fun z => m ((g.mem k).mpr z)
    have l2 := pm.length_eq
    rw [List.length_cons] at l2
    refine ⟨fun j => ?_, by omega, ?_⟩
    · rw [(pm.map Prod.snd).mem_iff, List.map_cons, List.mem_cons, g.mem, List.mem_append, List.mem_singleton]
      exact Or.comm
    · rw [snoc_nodup, ← g.all, l2, ln]
      exact ⟨fun e => ⟨by omega, m2⟩, fun e => by omega⟩
theorem SN.on {h h' : Heap} (N : SN w h a L es ep t) (ha : ∀ o, h.get? a = some o → h'.get? a = some o) (key : ∀ z ∈ L, NK h' z.2 z.1) : SN w h' a L es ep t := by
  obtain ⟨o, ho, r⟩ := N.obj
  exact ⟨⟨o, ha o ho, r⟩, N.row, N.tab, N.one, key, N.wide⟩
theorem SN.new {h : Heap} {b : Bool} (ho : h.get? a = some { cls := .type "set", dict := none, data := .set #[] 0 (.fresh 0 0 b) }) : SN w h a [] #[] 0 (.fresh 0 0 b) where
  obj := ⟨_, ho, ⟨rfl, rfl, rfl⟩, rfl⟩
  row := rfl
  tab := { ris := List.Pairwise.nil, dm := rfl, sz := rfl, mok := .inl rfl, bd := fun y hy => (nomatch hy), reach := fun i H j e => (by simp [hsN] at e) }
  one := List.nodup_nil
  key := fun z hz => (nomatch hz)
  wide := (by decide : 0 * 5 < 7 * 3)
theorem upd_loop {I : Addr} {fp wr : List Addr} {G : Array GenState → Array GenState → Prop} {n : Nat} {Pv : Nat → Value → Prop} {St : Nat → Shared → Prop} {R : Result → Shared → Prop} (W : WalksS P w A.in1 I fp wr G n Pv St) {S : Addr} (hS : S ∉ fp)
    (ks : List NestedKey) (hn : ks.length = n) (few : n < 64) (h0 : Heap) (val : ∀ i v, Pv i v → ∃ b k, ks[i]? = some k ∧ v = .ref b ∧ NK h0 k b) (S0 : h0.get? S = none) (wr0 : ∀ b ∈ wr, h0.get? b = none) (room : A.in1.units + 8 < cLine) (d : Nat) :
    ∀ (i : Nat) (s : Shared), i + d = n → St i s → (∀ b o, h0.get? b = some o → s.heap.get? b = some o) → (∃ L es ep t, SN w s.heap S L es ep t ∧ GotN (ks.take i) L ∧ ∀ z ∈ L, NK h0 z.2 z.1) →
      (∀ s' L es ep t, Moved (S :: wr) G s s' → SN w s'.heap S L es ep t → GotN ks L → (∀ b o, h0.get? b = some o → s'.heap.get? b = some o) → R (.ok (.ret .none)) s') → codeAny (model P w) A (.builtin "set.update.loop" ⟨[.ref S, .ref I], []⟩) R s := by
  have out : S ∉ wr := fun z => hS (W.sub _ z)
  have kept : ∀ {s s' : Shared}, Moved wr G s s' → (∀ b o, h0.get? b = some o → s.heap.get? b = some o) → ∀ b o, h0.get? b = some o → s'.heap.get? b = some o := fun mv kp b o e => mv.heap b o (fun hb => nomatch (wr0 b hb).symm.trans e) (kp b o e)
  have wide_ : ∀ {s s' : Shared}, Moved wr G s s' → Moved (S :: wr) G s s' := fun mv => mv.mono fun b hb => List.mem_cons_of_mem _ hb
  induction d with
  | zero =>
    intro i s hi st kp ⟨L, es, ep, t, N, g, kL⟩ fin
    obtain rfl : i = n := hi
    refine codeAny_builtin F.entry_set_update_loop (by
      rw [Around.under_plainId F.plain_set_update_loop _]
      refine wpAny_bind (m := pyNext (.ref I)) (W.done s _ _ st fun s' mv => wpAny_pure ?_)
      have kp' := kept mv kp
      refine fin s' L es ep t (wide_ mv) (N.on (fun o e => mv.heap S o out e) fun z hz => nk_keep (kL z hz) kp') ?_ kp'
      rwa [← hn, List.take_length] at g)
  | succ d ih =>
    intro i s hi st kp ⟨L, es, ep, t, N, g, kL⟩ fin
    have lt : i < n := by omega
    refine codeAny_builtin F.entry_set_update_loop ?_
    rw [Around.under_plainId F.plain_set_update_loop _]
    refine wpAny_bind (m := pyNext (.ref I)) (W.item i s _ _ lt st fun v s' pv st' mv => ?_)
    obtain ⟨b, k, ek, rfl, hb⟩ := val i v pv
    have kp' := kept mv kp
    have N' : SN w s'.heap S L es ep t := N.on (fun o e => mv.heap S o out e) fun z hz => nk_keep (kL z hz) kp'
    have hx : NK s'.heap k b := nk_keep hb kp'
    have gl := g.le
    rw [List.length_take] at gl
    refine wpAny_bind (m := holding [Value.ref b] (setAdd S (.ref b))) (wpAny_holding ?_)
    unfold setAdd
    refine wpAny_holding (wpAny_bind ((nestedKind P w).pyHash room hx (add_to (s := { s' with toks := s'.toks + k.draws }) N' hx room (by omega) fun r h' L' es' ep' t' sb N2 cs => ?_)))
    have kp2 : ∀ c o, h0.get? c = some o → h'.get? c = some o := fun c o e => (sb.2 c fun z => nomatch (z ▸ S0).symm.trans e).trans (kp' c o e)
    have g2 : GotN (ks.take (i + 1)) L' := by
      rw [List.take_succ, ek]
      exact g.add cs
    have kL2 : ∀ z ∈ L', NK h0 z.2 z.1 := fun z hz => by
      rcases cs with ⟨_, rfl⟩ | ⟨_, pm⟩
      · exact kL z hz
      · rcases List.mem_cons.mp (pm.mem_iff.mp hz) with rfl | hz
        · exact hb
        · exact kL z hz
    refine wpAny_pure ⟨plainId_quiet F.plain_set_update_loop _, ih (i + 1) _ (by omega) ?_ kp2 ⟨L', es', ep', t', N2, g2, kL2⟩ ?_⟩
    · exact W.frame _ s' _ _ st' (Nat.le_add_right _ _) fun c hc o e => (sb.2 c fun z : c = S => hS (z ▸ hc)).trans e
    · intro s2 L2 es2 ep2 t2 mv2 N3 g3 kp3
      refine fin s2 L2 es2 ep2 t2 (Moved.trans W.gtrans ((wide_ mv).then_heap (Nat.le_add_right _ _) fun c o hc e => ?_) mv2) N3 g3 kp3
      exact (sb.2 c fun z : c = S => hc (z ▸ List.mem_cons_self)).trans e
/-- an empty set, as it is made -/
abbrev setO (b : Bool) : Obj := { cls := .type "set", dict := none, data := .set #[] 0 (.fresh 0 0 b) }
set_option maxHeartbeats 3200000 in
theorem call_setN {l : Addr} {items : Array Value} (ks : List NestedKey) {Q : Value → Shared → Prop} (hh : A.handled = none) (hl : s.heap.IsList l items) (cnt : ks.length = items.size) (val : ∀ (i : Nat) (v : Value), items[i]? = some v → ∃ b k, ks[i]? = some k ∧ v = .ref b ∧ NK s.heap k b)
    (few : ks.length < 64) (room : A.units + 16 < cLine) (q : ∀ (h' : Heap) (tk : Nat) L es ep t, SN w h' s.heap.objs.size L es ep t → GotN ks L → (∀ b o, s.heap.get? b = some o → h'.get? b = some o) → Q (.ref s.heap.objs.size) { s with heap := h', toks := tk }) : wpAny (model P w) A (call (.type "set") [.ref l]) Q E s := by
  obtain ⟨first_, others, line⟩ := F.called_set.mro
  have g1 := F.called_set.made
  have g2 := F.called_set.sub
  have g3 := F.called_set.notType
  have g4 := F.called_set.canCreate
  have g5 := F.typeCall_set_1 (.ref l)
  generalize hS : s.heap.objs.size = S at q
  have none_ : ∀ b, S ≤ b → s.heap.get? b = none := fun b hb => by
    cases z : s.heap.get? b with
    | none => rfl
    | some o => exact absurd (Heap.lt_size z) (hS ▸ Nat.not_lt.mpr hb)
  refine wpAny_call (codeAny_of_tree ?_)
  change wpAny _ _ (callAny (.type "set") _) _ _ _
  refine wpAny_pure ⟨Code.quiet_builtin _ (by decide +kernel), codeAny_builtin F.entry_type_call ?_⟩; rw [Around.under_plain (weight_type_call_type "set" [.ref l] []) rfl]
  repeat (any_goals (first | assumption | wp_step))
  generalize hb : (!w.params.followText "set-order") = led
  have grown : ∀ b o, s.heap.get? b = some o → (s.heap.push (setO led)).get? b = some o := fun b o e => Heap.get?_push_of_some _ e
  have new : (s.heap.push (setO led)).get? S = some (setO led) := hS ▸ Heap.get?_push_size _ rfl
  refine codeAny_mono (code_set_led1 (w := w) (.ref l) (E := E) (Q₁ := fun u s₁ => u = .ref S ∧ s₁ = { s with heap := s.heap.push (setO led) }) ⟨congrArg _ hS, by rw [hb]⟩) fun r s₁ hr => ?_
  cases r with
  | error e => exact hr
  | ok fl => cases fl with
    | ret u =>
      obtain ⟨rfl, rfl⟩ := hr
      have ty : Shared.TypeIs { s with heap := s.heap.push (setO led) } (.ref S) "set" := ⟨_, new, rfl⟩
      have i1 := F.called_set.init.lookup
      have i2 := F.called_set.init.bind (.ref S)
      repeat (any_goals (first | assumption | wp_step))
      refine codeAny_mono (codeAny_call_builtin (R := wants (fun r s₂ => r = .none ∧ ∃ h' tk L es ep t, s₂ = { s with heap := h', toks := tk } ∧ SN w h' S L es ep t ∧ GotN ks L ∧ ∀ b o, s.heap.get? b = some o → h'.get? b = some o) E)
        F.called_set.init.plain F.entry_set_init (check_set_init_1 ty ?_)) fun r₂ s₂ hr₂ => ?_
      · obtain ⟨ol, hol, cl, nl, dl⟩ := hl
        obtain ⟨_, od, _, os_⟩ := ol
        simp only at cl dl
        subst cl dl
        have here := grown _ _ hol
        have list1 : (s.heap.push (setO led)).IsList l items := ⟨_, here, rfl, nl, rfl⟩
        have n1 := F.sub_list_set
        have n2 := F.sub_list_frozenset
        have n3 : (Value.type "list" == Value.type "dict") = false := by decide
        have lS : l < S := hS ▸ Heap.lt_size hol
        have size1 : (s.heap.push (setO led)).objs.size = S + 1 := by rw [Heap.size_push, hS]
        unfold Builtin.«set.__init__» Builtin.Frozenset.updateFrom noKeywords
        generalize hPI : pyIter = PI
        wp_walk
        subst hPI
        refine wpAny_pyIter_list list1 (wpAny_bind (wpAny_runValue ?_))
        rw [size1]
        have W := (Walks.list (prog := P) (w := w) (A := A.in1.in1.in1) (by simp [hh]) (S + 1) l (Nat.ne_of_lt (Nat.lt_succ_of_lt lS)) items).toS
        have notS : S ∉ [S + 1, l] := fun z => by
          rcases List.mem_cons.mp z with e | z
          · exact absurd e (Nat.ne_of_lt (Nat.lt_succ_self S))
          · exact absurd (List.mem_singleton.mp z) (Nat.ne_of_gt lS)
        refine upd_loop W (S := S) notS ks cnt (by omega) s.heap val (none_ S (Nat.le_refl S)) (fun b hb => none_ b (by rw [List.mem_singleton.mp hb]; exact Nat.le_succ S)) (by simp only [Around.in1_units]; omega) items.size 0 _ (Nat.zero_add _) ⟨?_, ?_⟩ (fun b o e => Heap.get?_push_of_some _ (grown b o e)) ⟨[], _, 0, _, SN.new (Heap.get?_push_of_some _ new), GotN.nil, fun z hz => nomatch hz⟩ fun s' L es ep t mv N g kp => ?_
        · exact ⟨_, size1 ▸ Heap.get?_push_size _ rfl, rfl, rfl⟩
        · exact list1.push _
        · obtain ⟨h', gs, dr, tk, os⟩ := s'
          have e1 : gs = s.gens := mv.gens
          have e2 : dr = s.drawn := mv.drawn
          have e3 : os = s.os := mv.os
          subst e1 e2 e3
          exact wpAny_pure (wpAny_pure ⟨rfl, h', tk, L, es, ep, t, rfl, N, g, kp⟩)
      · cases r₂ with
        | error e => exact hr₂
        | ok fl₂ => cases fl₂ with
          | ret r =>
            obtain ⟨rfl, h', tk, L, es, ep, t, rfl, N, g, kp⟩ := hr₂
            repeat (any_goals (first | assumption | wp_step))
            exact q _ _ _ _ _ _ N g kp
          | _ => exact hr₂.elim
    | _ => exact hr.elim
end
/-! ### the rule -/
section
variable {X : Cx} {H0 : Hp} {K : Kf}
theorem keys_eq_map : ∀ l : List PV, keysOf l = l.map keyOf
  | [] => by simp only [keysOf]; rfl
  | x :: l => by simp only [keysOf]; rw [keys_eq_map l]; rfl
theorem nodup_keys : ∀ {l : List PV}, (∀ x ∈ l, KyD 8 x) → ((keysOf l).Nodup ↔ l.Nodup)
  | [], _ => by rw [keys_eq_map]; exact ⟨fun _ => List.nodup_nil, fun _ => List.nodup_nil⟩
  | x :: l, h => by
    have ih := nodup_keys (l := l) fun y hy => h y (List.mem_cons_of_mem _ hy)
    rw [keys_eq_map] at ih ⊢
    rw [List.map_cons, List.nodup_cons, List.nodup_cons, ih]
    refine and_congr_left fun _ => not_congr ⟨fun m => ?_, fun m => List.mem_map_of_mem m⟩
    obtain ⟨y, my, e⟩ := List.mem_map.mp m
    exact KyD.inj (h y (List.mem_cons_of_mem _ my)) (h x List.mem_cons_self) e ▸ my
theorem reps_at {H : Hp} : ∀ {l : List PV} {vs : List V} {us : List Value} {i : Nat} {v : Value}, Reps K H l vs → Vals vs us → us[i]? = some v → ∃ p x, l[i]? = some p ∧ Rep K H p x ∧ RelV x v
  | _, _, _, i, _, .nil, .nil, h => by simp at h
  | _, _, _, 0, _, .cons r rr, .cons z zz, h => by
    simp only [List.getElem?_cons_zero, Option.some.injEq] at h
    exact ⟨_, _, rfl, r, h ▸ z⟩
  | _, _, _, i + 1, _, .cons r rr, .cons z zz, h => by
    simp only [List.getElem?_cons_succ] at h ⊢
    exact reps_at rr zz h
/-- len(set(a)) -/
@[reducible] def tLenSetN (K : Kf) (ta : TEp) : TEp := fun σ M Q => ta σ M fun x M1 => match x with
  | .ref a => ∃ l, rdL K M1 a l ∧ l.length < 64 ∧ (∀ x ∈ l, ∃ t, x = .tup t ∧ KyD 8 x) ∧ ∀ n : Nat, n ≤ l.length → (n = l.length ↔ l.Nodup) → Q (.int n) M1
  | _ => False
theorem plenset {a : Expr} {ta : TEp} {p p2 q pos : Pos} (hc : X.calm = true) (hu : X.A.units + 64 < cLine) (hg : Gl X "len") (hm : X.mg "len" = none) (hg2 : Gl X "set") (hm2 : X.mg "set" = none) (ha : PEp X H0 a ta) (hK : X.K = K := by rfl)
    (na : starEach [a] X.env = (false, eval a X.env) :: starEach [] X.env := by rfl) : PEp X H0 (.Call (.Name "len" p) [.Call (.Name "set" p2) [a] [] q] [] pos) (tLenSetN K ta) := by
  subst hK
  refine ⟨fun pins s σ H Q I ⟨σp, M, Qp, t, sr, m, u, k⟩ => ?_⟩
  refine Call_ (ld_blt I hg hm PySem.boot_len ?_)
  refine callWith_builtin1 (args_cons (Call_ (ld_blt I hg2 hm2 boot_set (callWith_type1 (args_cons (thn (ha.run pins s σ H (fun x H1 => ∃ px M1, Tk X.K H H1 ∧ RelM X.K H1 M1 ∧ Rep X.K H1 px x ∧ (match px with
      | .ref a => ∃ l, rdL X.K M1 a l ∧ l.length < 64 ∧ (∀ x ∈ l, ∃ t, x = .tup t ∧ KyD 8 x) ∧ ∀ n : Nat, n ≤ l.length → (n = l.length ↔ l.Nodup) → Qp (.int n) M1
      | _ => False)) I ⟨σp, M, _, t, sr, m, u, fun x H1 px M1 t1 m1 rx u1 => ⟨px, M1, t1, m1, rx, u1⟩⟩) fun uv s1 ⟨x, H1, I1, r1, px, M1, t1, m1, rx, u1⟩ => args_nil ?_) na) na rfl))) rfl) rfl rfl
  cases rx with
  | ref a =>
    obtain ⟨l, rd, few, kys, fin⟩ := u1
    obtain rfl : uv = Value.ref a := r1
    obtain ⟨vs, hq, rs⟩ := rd.to m1
    obtain ⟨its, rv, pl, hz⟩ := I1.list hq
    have l1 := rs.length
    have l2 := rv.length
    have lk : (keysOf l).length = l.length := by rw [keys_eq_map, List.length_map]
    have ky : ∀ x ∈ l, KyD 8 x := fun x hx => (kys x hx).choose_spec.2
    refine call_setN (keysOf l) (I1.ok.hd hc) pl.isList (by rw [lk, l1, l2, List.size_toArray]) (fun i v hv => ?_) (by omega) (by omega) fun h' tk L es ep t N g kp => ?_
    · rw [List.getElem?_toArray] at hv
      obtain ⟨p, x, e1, e2, e3⟩ := reps_at rs rv hv
      obtain ⟨t, rfl, kd⟩ := kys p (List.mem_of_getElem? e1)
      cases e2 with
      | @tup _ b _ hs rr =>
        obtain rfl : v = Value.ref b := e3
        exact ⟨b, keyOf (.tup t), by rw [keys_eq_map, List.getElem?_map, e1]; rfl, rfl, rep_is I1 kd (Rep.tup hs rr)⟩
    · refine args_nil ?_
      have I2 : Inv X pins σ H1 { s1 with heap := h', toks := tk } := I1.kept kp
      obtain ⟨o, ho, hex, hd⟩ := N.obj
      have sz := row_len N.row
      have gl := g.le
      refine call_len_set ho hex hd (SN.fits (s := { s1 with heap := h', toks := tk }) N) (by omega) ⟨.int es.size, H1, I2.tok _, ⟨_, rfl⟩, ?_⟩
      rw [sz]
      exact k _ _ _ _ t1 m1 (.int _) (fin L.length (by omega) (by rw [← nodup_keys ky, ← g.all, lk]))
  | _ => exact u1.elim
end
end PL

set_option Elab.async false
set_option linter.all false
set_option maxRecDepth 100000
set_option maxHeartbeats 4000000
namespace PL
open PySem L2
open Builtin.Int (intBits)
def topS (i : Nat) : Stmt := PySem.Challenge.pw_toldotherwise_k12_least_of_all_arrangeme.main.body.getD i (.Pass ⟨0, 0, 0, 0⟩)
abbrev s_reduced : Stmt := topS 2
theorem sc_reduced : FnScope ["weights", "common", "weight"] ["weights"] (defScope s_reduced) := ⟨rfl, rfl, rfl, by decide +kernel, rfl, by decide +kernel, by decide +kernel⟩
abbrev s__slices_of : Stmt := topS 4
theorem sc__slices_of : FnScope ["cells", "owner", "index", "row", "entries"] ["cells", "owner"] (defScope s__slices_of) := ⟨rfl, rfl, rfl, by decide +kernel, rfl, by decide +kernel, by decide +kernel⟩
abbrev s_is_reduced : Stmt := topS 5
theorem sc_is_reduced : FnScope ["table", "weights", "cells", "owner", "parts"] ["table"] (defScope s_is_reduced) := ⟨rfl, rfl, rfl, by decide +kernel, rfl, by decide +kernel, by decide +kernel⟩
abbrev s_sizes_of : Stmt := topS 7
theorem sc_sizes_of : FnScope ["table", "weights", "cells"] ["table"] (defScope s_sizes_of) := ⟨rfl, rfl, rfl, by decide +kernel, rfl, by decide +kernel, by decide +kernel⟩
abbrev s_all_orders : Stmt := topS 8
theorem sc_all_orders : FnScope ["count", "found", "_", "order", "index"] ["count"] (defScope s_all_orders) := ⟨rfl, rfl, rfl, by decide +kernel, rfl, by decide +kernel, by decide +kernel⟩
abbrev s_arranged : Stmt := topS 9
theorem sc_arranged : FnScope ["table", "orders", "weights", "cells", "rows", "row", "column", "chance"] ["table", "orders"] (defScope s_arranged) := ⟨rfl, rfl, rfl, by decide +kernel, rfl, by decide +kernel, by decide +kernel⟩
abbrev s__sorted_axis : Stmt := topS 10
theorem sc__sorted_axis : FnScope ["table", "owner", "orders", "weights", "cells", "keyed", "index", "part", "row", "column", "chance", "_"] ["table", "owner", "orders"] (defScope s__sorted_axis) := ⟨rfl, rfl, rfl, by decide +kernel, rfl, by decide +kernel, by decide +kernel⟩
abbrev s_least_arrangement : Stmt := topS 11
theorem sc_least_arrangement : FnScope ["table", "sizes", "longest", "choices", "best", "chance", "first", "second", "orders", "found", "owner"] ["table"] (defScope s_least_arrangement) := ⟨rfl, rfl, rfl, by decide +kernel, rfl, by decide +kernel, by decide +kernel⟩
abbrev s__law_source : Stmt := topS 13
theorem sc__law_source : FnScope ["script", "mixed", "cell"] ["script"] (defScope s__law_source) := ⟨rfl, rfl, rfl, by decide +kernel, rfl, by decide +kernel, by decide +kernel⟩
abbrev s__law_draw : Stmt := topS 14
theorem sc__law_draw : FnScope ["script", "source", "limit", "cell", "found"] ["script", "source", "limit"] (defScope s__law_draw) := ⟨rfl, rfl, rfl, by decide +kernel, rfl, by decide +kernel, by decide +kernel⟩
abbrev s__law_name : Stmt := topS 15
theorem sc__law_name : FnScope ["script", "source", "used", "letters", "signs", "name", "k", "base"] ["script", "source", "used"] (defScope s__law_name) := ⟨rfl, rfl, rfl, by decide +kernel, rfl, by decide +kernel, by decide +kernel⟩
abbrev s__law_gcd : Stmt := topS 16
theorem sc__law_gcd : FnScope ["a", "b", "k"] ["a", "b"] (defScope s__law_gcd) := ⟨rfl, rfl, rfl, by decide +kernel, rfl, by decide +kernel, by decide +kernel⟩
abbrev s__law_reduced : Stmt := topS 17
theorem sc__law_reduced : FnScope ["weights", "common", "weight"] ["weights"] (defScope s__law_reduced) := ⟨rfl, rfl, rfl, by decide +kernel, rfl, by decide +kernel, by decide +kernel⟩
abbrev s__law_order : Stmt := topS 18
theorem sc__law_order : FnScope ["script", "source", "count", "order", "left", "k"] ["script", "source", "count"] (defScope s__law_order) := ⟨rfl, rfl, rfl, by decide +kernel, rfl, by decide +kernel, by decide +kernel⟩
abbrev s__law_orders : Stmt := topS 19
theorem sc__law_orders : FnScope ["count", "found", "k", "longer", "order", "item"] ["count"] (defScope s__law_orders) := ⟨rfl, rfl, rfl, by decide +kernel, rfl, by decide +kernel, by decide +kernel⟩
abbrev s__law_arranged : Stmt := topS 20
theorem sc__law_arranged : FnScope ["table", "orders", "cells", "i", "layer", "j", "c"] ["table", "orders"] (defScope s__law_arranged) := ⟨rfl, rfl, rfl, by decide +kernel, rfl, by decide +kernel, by decide +kernel⟩
abbrev s__law_slices : Stmt := topS 21
theorem sc__law_slices : FnScope ["cube", "owner", "found", "c", "part", "layer", "entry", "j"] ["cube", "owner"] (defScope s__law_slices) := ⟨rfl, rfl, rfl, by decide +kernel, rfl, by decide +kernel, by decide +kernel⟩
abbrev s__law_told : Stmt := topS 22
theorem sc__law_told : FnScope ["answer", "due", "k", "name"] ["answer", "due"] (defScope s__law_told) := ⟨rfl, rfl, rfl, by decide +kernel, rfl, by decide +kernel, by decide +kernel⟩
abbrev s__law_small_table : Stmt := topS 23
theorem sc__law_small_table : FnScope ["script", "source", "sizes", "outcomes", "cells", "i", "layer", "j", "low", "high", "weights", "layers", "c", "size", "entries"] ["script", "source", "sizes", "outcomes"] (defScope s__law_small_table) := ⟨rfl, rfl, rfl, by decide +kernel, rfl, by decide +kernel, by decide +kernel⟩
abbrev s__law_all_arrangements : Stmt := topS 24
theorem sc__law_all_arrangements : FnScope ["table", "sizes", "found", "chance", "first", "second"] ["table", "sizes"] (defScope s__law_all_arrangements) := ⟨rfl, rfl, rfl, by decide +kernel, rfl, by decide +kernel, by decide +kernel⟩
abbrev s__law_least : Stmt := topS 25
theorem sc__law_least : FnScope ["tables", "least", "table"] ["tables"] (defScope s__law_least) := ⟨rfl, rfl, rfl, by decide +kernel, rfl, by decide +kernel, by decide +kernel⟩
abbrev s__law_are_orders : Stmt := topS 26
theorem sc__law_are_orders : FnScope ["told", "sizes", "k", "index"] ["told", "sizes"] (defScope s__law_are_orders) := ⟨rfl, rfl, rfl, by decide +kernel, rfl, by decide +kernel, by decide +kernel⟩
abbrev s__law_least_told : Stmt := topS 27
theorem sc__law_least_told : FnScope ["table", "sizes", "least", "told"] ["table", "sizes", "least"] (defScope s__law_least_told) := ⟨rfl, rfl, rfl, by decide +kernel, rfl, by decide +kernel, by decide +kernel⟩
abbrev s__law_is_reduced : Stmt := topS 28
theorem sc__law_is_reduced : FnScope ["table", "owner", "parts", "k"] ["table"] (defScope s__law_is_reduced) := ⟨rfl, rfl, rfl, by decide +kernel, rfl, by decide +kernel, by decide +kernel⟩
abbrev s__law_reduced_told : Stmt := topS 29
theorem sc__law_reduced_told : FnScope ["table", "told"] ["table"] (defScope s__law_reduced_told) := ⟨rfl, rfl, rfl, by decide +kernel, rfl, by decide +kernel, by decide +kernel⟩
abbrev s__law_repeated : Stmt := topS 30
theorem sc__law_repeated : FnScope ["table", "weights", "cells", "wider", "deeper", "layer", "entries"] ["table"] (defScope s__law_repeated) := ⟨rfl, rfl, rfl, by decide +kernel, rfl, by decide +kernel, by decide +kernel⟩
abbrev s__law_spoilt_weights : Stmt := topS 31
theorem sc__law_spoilt_weights : FnScope ["script", "source", "weights", "changed"] ["script", "source", "weights"] (defScope s__law_spoilt_weights) := ⟨rfl, rfl, rfl, by decide +kernel, rfl, by decide +kernel, by decide +kernel⟩
abbrev s_law : Stmt := topS 32
theorem sc_law : FnScope ["script", "source", "menu", "size", "turn", "sizes", "outcomes", "k", "table", "every", "least", "other", "lowest", "factor", "times_more", "below", "one", "weight"] ["script"] (defScope s_law) := ⟨rfl, rfl, rfl, by decide +kernel, rfl, by decide +kernel, by decide +kernel⟩
structure Blt (mg : Str → Option Value) : Prop where
  b_abs : mg "abs" = none
  b_bool : mg "bool" = none
  b_dict : mg "dict" = none
  b_int : mg "int" = none
  b_isinstance : mg "isinstance" = none
  b_len : mg "len" = none
  b_list : mg "list" = none
  b_max : mg "max" = none
  b_min : mg "min" = none
  b_range : mg "range" = none
  b_set : mg "set" = none
  b_sorted : mg "sorted" = none
  b_str : mg "str" = none
  b_tuple : mg "tuple" = none
  g_gcd : mg "gcd" = some (.builtin "math.gcd")
/-! the law's source of numbers -/
abbrev SL (i c m : Int) : MO := .lst [.int i, .int c, .int m]
/-- objects other than s persist -/
def Keep (s : Addr) (M M' : PHp) : Prop := ∀ b o, b ≠ s → M b = some o → M' b = some o
theorem Keep.refl (s : Addr) (M : PHp) : Keep s M M := fun _ _ _ h => h
theorem Keep.trans {s : Addr} {M M1 M2 : PHp} (a : Keep s M M1) (b : Keep s M1 M2) : Keep s M M2 := fun x o n h => b x o n (a x o n h)
theorem Keep.put {s : Addr} {M : PHp} {o : MO} : Keep s M (updM M s o) := fun b u n h => by rw [updM_ne n]; exact h
theorem Keep.new {s p : Addr} {M : PHp} {o : MO} (h : M p = none) : Keep s M (updM M p o) := fun b u n e => by rw [updM_ne (neM e h)]; exact e
theorem Keep.of_sub {s : Addr} {M M' : PHp} (h : Sub M M') : Keep s M M' := fun b o _ e => h b o e
theorem rdL.sub {K : Kf} {a : Addr} {M M' : PHp} {l : List PV} (h : rdL K M a l) (k : Sub M M') : rdL K M' a l := by
  rcases h with h | h | h
  · exact .inl (k _ _ h)
  · exact .inr (.inl (k _ _ h))
  · exact .inr (.inr h)
/-- the script at a, its source at s (a script that is the module's own may stand anywhere) -/
structure Env (K : Kf) (M : PHp) (a s : Addr) (ns : List Int) : Prop where
  rd0 : (a ≠ s ∧ (M a = some (.lst (ns.map PV.int)) ∨ M a = some (.ro (ns.map PV.int)))) ∨ KL K a (ns.map PV.int)
  src : ∃ i c m, M s = some (SL i c m) ∧ 0 ≤ i ∧ 0 ≤ c ∧ 0 ≤ m
  len : ns.length ≤ 63
  bits : ∀ z ∈ ns, Builtin.Int.intBits z ≤ 1048576
theorem Env.rd {K : Kf} {M : PHp} {a s : Addr} {ns : List Int} (e : Env K M a s ns) : rdL K M a (ns.map PV.int) := by
  rcases e.rd0 with ⟨_, h | h⟩ | h
  · exact .inl h
  · exact .inr (.inl h)
  · exact .inr (.inr h)
theorem Env.to {K : Kf} {M M' : PHp} {a s : Addr} {ns : List Int} (e : Env K M a s ns) (k : Keep s M M') {i c m : Int} (h : M' s = some (SL i c m)) (h1 : 0 ≤ i) (h2 : 0 ≤ c) (h3 : 0 ≤ m) : Env K M' a s ns := by
  refine ⟨?_, ⟨i, c, m, h, h1, h2, h3⟩, e.len, e.bits⟩
  rcases e.rd0 with ⟨n, h | h⟩ | h
  · exact .inl ⟨n, .inl (k _ _ n h)⟩
  · exact .inl ⟨n, .inr (k _ _ n h)⟩
  · exact .inr h
theorem Env.keep {K : Kf} {M M1 M2 : PHp} {a s : Addr} {ns : List Int} (e : Env K M a s ns) (e1 : Env K M1 a s ns) (k : Keep s M M2) (h : M2 s = M1 s) : Env K M2 a s ns := by
  obtain ⟨i, c, m, g1, g2, g3, g4⟩ := e1.src
  exact e.to k (h.trans g1) g2 g3 g4
theorem Env.put {K : Kf} {M : PHp} {a s : Addr} {ns : List Int} (e : Env K M a s ns) {i c m : Int} (h1 : 0 ≤ i) (h2 : 0 ≤ c) (h3 : 0 ≤ m) : Env K (updM M s (SL i c m)) a s ns := e.to .put updM_same h1 h2 h3
theorem Env.sub {K : Kf} {M M' : PHp} {a s : Addr} {ns : List Int} (e : Env K M a s ns) (h : Sub M M') : Env K M' a s ns := by
  obtain ⟨i, c, m, h1, h2, h3, h4⟩ := e.src
  exact e.to (.of_sub h) (h _ _ h1) h2 h3 h4
theorem Env.new {K : Kf} {M : PHp} {a s p : Addr} {ns : List Int} {o : MO} (e : Env K M a s ns) (h : M p = none) : Env K (updM M p o) a s ns := e.sub (.new h)
/-- from the law's own script -/
theorem Env.first {K : Kf} {M M' : PHp} {a s : Addr} {ns : List Int} {m : Int} (h : rdL K M a (ns.map PV.int)) (hs : M s = none) (sb : Sub M M') (hm : M' s = some (SL 0 0 m)) (h0 : 0 ≤ m) (hl : ns.length ≤ 63) (hb : ∀ z ∈ ns, Builtin.Int.intBits z ≤ 1048576) : Env K M' a s ns := by
  refine ⟨?_, ⟨0, 0, m, hm, by decide, by decide, h0⟩, hl, hb⟩
  rcases h with h | h | h
  · exact .inl ⟨neM h hs, .inl (sb _ _ h)⟩
  · exact .inl ⟨neM h hs, .inr (sb _ _ h)⟩
  · exact .inr h
theorem Env.src_ne {K : Kf} {M : PHp} {a s p : Addr} {ns : List Int} (e : Env K M a s ns) (h : M p = none) : p ≠ s := by
  obtain ⟨i, c, m, h1, _⟩ := e.src
  exact neM' h1 h
theorem Keep.put1 {s : Addr} {M M1 : PHp} {o : MO} (k : Keep s M M1) : Keep s M (updM M1 s o) := k.trans .put
theorem Keep.new1 {s p : Addr} {M M1 : PHp} {o : MO} (k : Keep s M M1) (h : M1 p = none) : Keep s M (updM M1 p o) := k.trans (.new h)
theorem at_ints {ns : List Int} {i : Int} (h0 : 0 ≤ i) (h1 : i < (ns.length : Int)) : ∃ z, z ∈ ns ∧ ns[i.toNat]? = some z ∧ atI (ns.map PV.int) i = some (.int z) := by
  obtain ⟨j, rfl⟩ : ∃ j : Nat, i = (j : Int) := ⟨i.toNat, by omega⟩
  have h : j < ns.length := by omega
  refine ⟨ns[j], List.getElem_mem h, List.getElem?_eq_getElem h, atI_nat ?_⟩
  rw [List.getElem?_map, List.getElem?_eq_getElem h]
  rfl
theorem fm {i j : Int} (h : 0 < j) : 0 ≤ i.fmod j ∧ i.fmod j < j := by
  rw [Int.fmod_eq_emod_of_nonneg i (by omega)]
  exact ⟨Int.emod_nonneg i (by omega), Int.emod_lt_of_pos i h⟩
theorem fd0 {i j : Int} (h0 : 0 ≤ i) (h : 0 < j) : 0 ≤ i.fdiv j := by
  rw [Int.fdiv_eq_ediv_of_nonneg i (by omega)]
  exact Int.ediv_nonneg h0 (by omega)
theorem p18 : (10 : Int) ^ Int.toNat 18 = 1000000000000000000 := by decide
theorem p9 : (10 : Int) ^ Int.toNat 9 = 1000000000 := by decide
theorem p20 : (10 : Int) ^ Int.toNat 20 = 100000000000000000000 := by decide
theorem p31 : (10 : Int) ^ Int.toNat 31 = 10000000000000000000000000000000 := by decide
def sp__law_draw (K : Kf) : PSpec := fun vs M Q _ => ∃ (a s : Addr) (ns : List Int) (l : Int), vs = [.ref a, .ref s, .int l] ∧ Env K M a s ns ∧ 0 < l ∧ Builtin.Int.intBits l ≤ 64 ∧
  ∀ r M', 0 ≤ r → r < l → Env K M' a s ns → Keep s M M' → Q (.int r) M'
theorem sp__law_draw_len {K : Kf} {vs : List PV} {M : PHp} {Q : PVK} {E : PXK} (h : sp__law_draw K vs M Q E) : vs.length = 3 := by
  obtain ⟨_, _, _, _, rfl, _⟩ := h; rfl
theorem bits64 {x : Int} (h : x.natAbs < 2 ^ 64) : intBits x ≤ 64 := intBits_le_iff.mpr h
theorem Keep.own {s p : Addr} {M M2 : PHp} {o : MO} (k : Keep s M M2) (h : M p = none) : Keep s M (updM M2 p o) := fun b u nb hb => by
  by_cases hbp : b = p
  · subst hbp; rw [h] at hb; cases hb
  · rw [updM_ne hbp]; exact k b u nb hb
theorem Env.own {K : Kf} {M M2 : PHp} {a s p : Addr} {ns : List Int} {o : MO} (e : Env K M a s ns) (e2 : Env K M2 a s ns) (h : M p = none) (ps : p ≠ s) (k : Keep s M M2) : Env K (updM M2 p o) a s ns := e.keep e2 (k.own h) (updM_ne ps.symm)
theorem Keep.none {K : Kf} {s p a : Addr} {M M' : PHp} {ns : List Int} (k : Keep s M M') (e : Env K M' a s ns) (h : M' p = none) : M p = none := by
  cases q : M p with
  | none => rfl
  | some o =>
    have := k p o (e.src_ne h) q
    rw [h] at this; cases this

/-! what is known of the heap: S: what may change, L: what stands where -/
theorem updM_at {M : PHp} {a b : Addr} {o u : MO} (n : b ≠ a) (h : M b = some u) : updM M a o b = some u := (updM_ne n).trans h
structure Hd (S : List Addr) (M0 M : PHp) (L : List (Addr × MO)) : Prop where
  kp : ∀ b o, b ∉ S → M0 b = some o → M b = some o
  ats : ∀ x ∈ L, M x.1 = some x.2
  fr : ∀ x ∈ L, M0 x.1 = none ∨ x.1 ∈ S
  nd : (L.map Prod.fst).Nodup
section
variable {K : Kf} {S : List Addr} {M0 M M' : PHp} {L : List (Addr × MO)} {a s p : Addr} {ns : List Int} {o o' : MO} {x y z v : Addr × MO}
theorem Hd.start : Hd S M M [] := ⟨fun _ _ _ h => h, by simp, by simp, List.nodup_nil⟩
theorem Hd.get (h : Hd S M0 M L) (i : Nat) (e : L[i]? = some (p, o)) : M p = some o := h.ats _ (List.mem_of_getElem? e)
theorem Hd.g0 (h : Hd S M0 M ((p, o) :: L)) : M p = some o := h.get 0 rfl
theorem Hd.g1 {y0 : Addr × MO} (h : Hd S M0 M (y0 :: (p, o) :: L)) : M p = some o := h.get 1 rfl
theorem Hd.g2 {y0 y1 : Addr × MO} (h : Hd S M0 M (y0 :: y1 :: (p, o) :: L)) : M p = some o := h.get 2 rfl
theorem Hd.g3 {y0 y1 y2 : Addr × MO} (h : Hd S M0 M (y0 :: y1 :: y2 :: (p, o) :: L)) : M p = some o := h.get 3 rfl
theorem Hd.g4 {y0 y1 y2 y3 : Addr × MO} (h : Hd S M0 M (y0 :: y1 :: y2 :: y3 :: (p, o) :: L)) : M p = some o := h.get 4 rfl
theorem Hd.g5 {y0 y1 y2 y3 y4 : Addr × MO} (h : Hd S M0 M (y0 :: y1 :: y2 :: y3 :: y4 :: (p, o) :: L)) : M p = some o := h.get 5 rfl
theorem Hd.new (h : Hd S M0 M L) (hp : M p = none) : Hd S M0 (updM M p o) ((p, o) :: L) := by
  refine ⟨fun b u nb hb => ?_, fun x hx => ?_, fun x hx => ?_, ?_⟩
  · have := h.kp b u nb hb
    rw [updM_ne (neM this hp)]; exact this
  · rcases List.mem_cons.mp hx with rfl | hx
    · exact updM_same
    · have := h.ats x hx
      rw [updM_ne (neM this hp)]; exact this
  · rcases List.mem_cons.mp hx with rfl | hx
    · by_cases q : p ∈ S
      · exact .inr q
      · left
        cases e : M0 p with
        | none => rfl
        | some u => have := h.kp p u q e; rw [hp] at this; cases this
    · exact h.fr x hx
  · rw [List.map_cons, List.nodup_cons]
    refine ⟨fun hm => ?_, h.nd⟩
    obtain ⟨y, hy, e⟩ := List.mem_map.mp hm
    have := h.ats y hy
    rw [e, hp] at this; cases this
theorem Hd.put {L1 L2 : List (Addr × MO)} (h : Hd S M0 M (L1 ++ (p, o) :: L2)) : Hd S M0 (updM M p o') (L1 ++ (p, o') :: L2) := by
  have nd := h.nd
  rw [List.map_append, List.map_cons] at nd
  have n1 := (List.nodup_append.mp nd)
  have n2 := (List.nodup_cons.mp n1.2.1)
  refine ⟨fun b u nb hb => ?_, fun x hx => ?_, fun x hx => ?_, by rw [List.map_append, List.map_cons]; exact nd⟩
  · have := h.kp b u nb hb
    refine (updM_ne fun e => ?_).trans this
    subst e
    rcases h.fr (b, o) (List.mem_append_right _ List.mem_cons_self) with q | q
    · rw [q] at hb; cases hb
    · exact nb q
  · rcases List.mem_append.mp hx with hx | hx
    · refine (updM_ne fun e => ?_).trans (h.ats x (List.mem_append_left _ hx))
      exact n1.2.2 x.1 (List.mem_map_of_mem hx) p List.mem_cons_self e
    · rcases List.mem_cons.mp hx with rfl | hx
      · exact updM_same
      · refine (updM_ne fun e => ?_).trans (h.ats x (List.mem_append_right _ (List.mem_cons_of_mem _ hx)))
        have q := List.mem_map_of_mem (f := Prod.fst) hx
        rw [e] at q; exact n2.1 q
  · rcases List.mem_append.mp hx with hx | hx
    · exact h.fr x (List.mem_append_left _ hx)
    · rcases List.mem_cons.mp hx with rfl | hx
      · exact h.fr (p, o) (List.mem_append_right _ List.mem_cons_self)
      · exact h.fr x (List.mem_append_right _ (List.mem_cons_of_mem _ hx))
theorem Hd.up0 (h : Hd S M0 M ((p, o) :: L)) : Hd S M0 (updM M p o') ((p, o') :: L) := Hd.put (L1 := []) h
theorem Hd.up1 (h : Hd S M0 M (x :: (p, o) :: L)) : Hd S M0 (updM M p o') (x :: (p, o') :: L) := Hd.put (L1 := [x]) h
theorem Hd.up2 (h : Hd S M0 M (x :: y :: (p, o) :: L)) : Hd S M0 (updM M p o') (x :: y :: (p, o') :: L) := Hd.put (L1 := [x, y]) h
theorem Hd.up3 (h : Hd S M0 M (x :: y :: z :: (p, o) :: L)) : Hd S M0 (updM M p o') (x :: y :: z :: (p, o') :: L) := Hd.put (L1 := [x, y, z]) h
theorem Hd.up4 (h : Hd S M0 M (x :: y :: z :: v :: (p, o) :: L)) : Hd S M0 (updM M p o') (x :: y :: z :: v :: (p, o') :: L) := Hd.put (L1 := [x, y, z, v]) h
/-- fewer things known -/
theorem Hd.less {L' : List (Addr × MO)} (h : Hd S M0 M L) (s : L'.Sublist L) : Hd S M0 M L' := ⟨h.kp, fun x hx => h.ats x (s.subset hx), fun x hx => h.fr x (s.subset hx), h.nd.sublist (s.map _)⟩
theorem Hd.sub (h : Hd [] M0 M L) : Sub M0 M := fun b o hb => h.kp b o (by simp) hb
theorem Hd.step (h : Hd S M0 M L) (k : Sub M M') : Hd S M0 M' L := ⟨fun b u nb hb => k _ _ (h.kp b u nb hb), fun x hx => k _ _ (h.ats x hx), h.fr, h.nd⟩
/-- with the script's source -/
structure He (K : Kf) (S : List Addr) (a s : Addr) (ns : List Int) (M0 M : PHp) (L : List (Addr × MO)) : Prop where
  env : Env K M a s ns
  hd : Hd (s :: S) M0 M L
  sn : s ∉ L.map Prod.fst
  sc : KL K a (ns.map PV.int) ∨ (a ∉ s :: S ∧ ∃ u, M0 a = some u)
theorem He.start (e : Env K M a s ns) : He K [] a s ns M M [] := ⟨e, .start, by simp, by
  rcases e.rd0 with ⟨n, h | h⟩ | h
  · exact .inr ⟨by simpa using n, _, h⟩
  · exact .inr ⟨by simpa using n, _, h⟩
  · exact .inl h⟩
/-- one more object changes: what the caller gives at r -/
theorem He.start1 {r : Addr} (e : Env K M a s ns) (hr : M r = some o) (rs : r ≠ s) (ra : KL K a (ns.map PV.int) ∨ r ≠ a) : He K [r] a s ns M M [(r, o)] := by
  refine ⟨e, ⟨fun _ _ _ h => h, fun x hx => ?_, fun x hx => ?_, by simp⟩, by simpa using rs.symm, ?_⟩
  · rw [List.mem_singleton.mp hx]; exact hr
  · rw [List.mem_singleton.mp hx]; exact .inr (by simp)
  · rcases ra with h | ra
    · exact .inl h
    rcases e.rd0 with ⟨n, h | h⟩ | h
    · exact .inr ⟨by simp [n, ra.symm], _, h⟩
    · exact .inr ⟨by simp [n, ra.symm], _, h⟩
    · exact .inl h
theorem He.get (h : He K S a s ns M0 M L) (i : Nat) (e : L[i]? = some (p, o)) : M p = some o := h.hd.get i e
theorem He.g0 (h : He K S a s ns M0 M ((p, o) :: L)) : M p = some o := h.get 0 rfl
theorem He.g1 {y0 : Addr × MO} (h : He K S a s ns M0 M (y0 :: (p, o) :: L)) : M p = some o := h.get 1 rfl
theorem He.g2 {y0 y1 : Addr × MO} (h : He K S a s ns M0 M (y0 :: y1 :: (p, o) :: L)) : M p = some o := h.get 2 rfl
theorem He.g3 {y0 y1 y2 : Addr × MO} (h : He K S a s ns M0 M (y0 :: y1 :: y2 :: (p, o) :: L)) : M p = some o := h.get 3 rfl
theorem He.g4 {y0 y1 y2 y3 : Addr × MO} (h : He K S a s ns M0 M (y0 :: y1 :: y2 :: y3 :: (p, o) :: L)) : M p = some o := h.get 4 rfl
theorem He.g5 {y0 y1 y2 y3 y4 : Addr × MO} (h : He K S a s ns M0 M (y0 :: y1 :: y2 :: y3 :: y4 :: (p, o) :: L)) : M p = some o := h.get 5 rfl
theorem He.new (h : He K S a s ns M0 M L) (hp : M p = none) : He K S a s ns M0 (updM M p o) ((p, o) :: L) :=
  ⟨h.env.new hp, h.hd.new hp, by rw [List.map_cons]; exact fun hm => (List.mem_cons.mp hm).elim (fun e => h.env.src_ne hp e.symm) h.sn, h.sc⟩
theorem He.put {L1 L2 : List (Addr × MO)} (h : He K S a s ns M0 M (L1 ++ (p, o) :: L2)) : He K S a s ns M0 (updM M p o') (L1 ++ (p, o') :: L2) := by
  have ps : p ≠ s := fun e => h.sn (by rw [List.map_append, List.map_cons]; exact List.mem_append_right _ (e ▸ List.mem_cons_self))
  refine ⟨?_, h.hd.put, by have := h.sn; rw [List.map_append, List.map_cons] at this ⊢; exact this, h.sc⟩
  obtain ⟨i, c, m, g1, g2, g3, g4⟩ := h.env.src
  refine ⟨?_, ⟨i, c, m, (updM_ne ps.symm).trans g1, g2, g3, g4⟩, h.env.len, h.env.bits⟩
  rcases h.sc with q | ⟨q, u, hu⟩
  · exact .inr q
  have ap : a ≠ p := fun e => by
    rcases h.hd.fr (p, o) (List.mem_append_right _ List.mem_cons_self) with f | f
    · rw [← e, hu] at f; cases f
    · exact q (e ▸ f)
  rcases h.env.rd0 with ⟨n, f | f⟩ | f
  · exact .inl ⟨n, .inl ((updM_ne ap).trans f)⟩
  · exact .inl ⟨n, .inr ((updM_ne ap).trans f)⟩
  · exact .inr f
theorem He.up0 (h : He K S a s ns M0 M ((p, o) :: L)) : He K S a s ns M0 (updM M p o') ((p, o') :: L) := He.put (L1 := []) h
theorem He.up1 (h : He K S a s ns M0 M (x :: (p, o) :: L)) : He K S a s ns M0 (updM M p o') (x :: (p, o') :: L) := He.put (L1 := [x]) h
theorem He.up2 (h : He K S a s ns M0 M (x :: y :: (p, o) :: L)) : He K S a s ns M0 (updM M p o') (x :: y :: (p, o') :: L) := He.put (L1 := [x, y]) h
theorem He.up3 (h : He K S a s ns M0 M (x :: y :: z :: (p, o) :: L)) : He K S a s ns M0 (updM M p o') (x :: y :: z :: (p, o') :: L) := He.put (L1 := [x, y, z]) h
theorem He.up4 (h : He K S a s ns M0 M (x :: y :: z :: v :: (p, o) :: L)) : He K S a s ns M0 (updM M p o') (x :: y :: z :: v :: (p, o') :: L) := He.put (L1 := [x, y, z, v]) h
theorem He.less {L' : List (Addr × MO)} (h : He K S a s ns M0 M L) (t : L'.Sublist L) : He K S a s ns M0 M L' := ⟨h.env, h.hd.less t, fun hm => h.sn ((t.map _).subset hm), h.sc⟩
theorem He.d0 (h : He K S a s ns M0 M (x :: L)) : He K S a s ns M0 M L := h.less (List.sublist_cons_self ..)
theorem He.d1 (h : He K S a s ns M0 M (x :: y :: L)) : He K S a s ns M0 M (x :: L) := h.less (.cons_cons _ (List.sublist_cons_self ..))
theorem He.d2 (h : He K S a s ns M0 M (x :: y :: z :: L)) : He K S a s ns M0 M (x :: y :: L) := h.less (.cons_cons _ (.cons_cons _ (List.sublist_cons_self ..)))
theorem He.nil (h : He K S a s ns M0 M L) : He K S a s ns M0 M [] := h.less (List.nil_sublist _)
/-- behind a call that changes the source alone -/
theorem He.call (h : He K S a s ns M0 M L) (e : Env K M' a s ns) (k : Keep s M M') : He K S a s ns M0 M' L := by
  refine ⟨e, ⟨fun b u nb hb => ?_, fun x hx => ?_, h.hd.fr, h.hd.nd⟩, h.sn, h.sc⟩
  · exact k _ _ (fun e => nb (e ▸ List.mem_cons_self)) (h.hd.kp b u nb hb)
  · exact k _ _ (fun e => h.sn (e ▸ List.mem_map_of_mem hx)) (h.hd.ats x hx)
theorem He.step (h : He K S a s ns M0 M L) (k : Sub M M') : He K S a s ns M0 M' L := h.call (h.env.sub k) (.of_sub k)
theorem He.keep (h : He K [] a s ns M0 M L) : Keep s M0 M := fun b o n hb => h.hd.kp b o (by simpa using n) hb
theorem He.old (h : He K S a s ns M0 M L) (n : p ∉ s :: S) (e : M0 p = some o) : M p = some o := h.hd.kp _ _ n e
theorem He.ne_s (h : He K S a s ns M0 M L) (i : Nat) (e : L[i]? = some (p, o)) : p ≠ s := fun q => h.sn (q ▸ List.mem_map_of_mem (f := Prod.fst) (List.mem_of_getElem? e))
theorem He.ne {p q : Addr} {o o' : MO} (h : He K S a s ns M0 M L) (i j : Nat) (n : i ≠ j) (e : L[i]? = some (p, o)) (e' : L[j]? = some (q, o')) : p ≠ q := fun he => by
  subst he
  have nd := h.hd.nd
  have e1 : (L.map Prod.fst)[i]? = some p := by rw [List.getElem?_map, e]; rfl
  have e2 : (L.map Prod.fst)[j]? = some p := by rw [List.getElem?_map, e']; rfl
  exact n ((List.getElem?_inj (List.getElem?_eq_some_iff.mp e1).1 nd).mp (e1.trans e2.symm))
theorem He.ne_a (h : He K S a s ns M0 M L) (i : Nat) (e : L[i]? = some (p, o)) : KL K a (ns.map PV.int) ∨ p ≠ a := by
  rcases h.sc with q | ⟨q, u, hu⟩
  · exact .inl q
  · refine .inr fun e' => ?_
    rcases h.hd.fr _ (List.mem_of_getElem? e) with f | f
    · have f : M0 p = none := f
      rw [e', hu] at f; cases f
    · exact q (e' ▸ f)
theorem He.fresh (h : He K [] a s ns M0 M L) (i : Nat) (e : L[i]? = some (p, o)) : M0 p = none := by
  rcases h.hd.fr _ (List.mem_of_getElem? e) with q | q
  · exact q
  · exact absurd (List.mem_singleton.mp q) (h.ne_s i e)
theorem He.rd (h : He K S a s ns M0 M L) : rdL K M a (ns.map PV.int) := h.env.rd
/-- a call that changes the source and r -/
def Keep2 (s r : Addr) (M M' : PHp) : Prop := ∀ b o, b ≠ s → b ≠ r → M b = some o → M' b = some o
theorem He.keep2 {r : Addr} (h : He K [r] a s ns M0 M L) : Keep2 s r M0 M := fun b o n1 n2 hb => h.hd.kp b o (by simp [n1, n2]) hb
theorem He.call2 {L1 L2 : List (Addr × MO)} (h : He K S a s ns M0 M (L1 ++ (p, o) :: L2)) (e : Env K M' a s ns) (k : Keep2 s p M M') (hp : M' p = some o') : He K S a s ns M0 M' (L1 ++ (p, o') :: L2) := by
  have h2 := h.put (o' := o')
  have ps : p ≠ s := fun e => h.sn (by rw [List.map_append, List.map_cons]; exact List.mem_append_right _ (e ▸ List.mem_cons_self))
  refine h2.call e fun b u n hb => ?_
  by_cases q : b = p
  · subst q; rw [updM_same] at hb; cases hb; exact hp
  · rw [updM_ne q] at hb; exact k b u n q hb
theorem He.c20 (h : He K S a s ns M0 M ((p, o) :: L)) (e : Env K M' a s ns) (k : Keep2 s p M M') (hp : M' p = some o') : He K S a s ns M0 M' ((p, o') :: L) := He.call2 (L1 := []) h e k hp
theorem He.c21 (h : He K S a s ns M0 M (x :: (p, o) :: L)) (e : Env K M' a s ns) (k : Keep2 s p M M') (hp : M' p = some o') : He K S a s ns M0 M' (x :: (p, o') :: L) := He.call2 (L1 := [x]) h e k hp
theorem He.c22 (h : He K S a s ns M0 M (x :: y :: (p, o) :: L)) (e : Env K M' a s ns) (k : Keep2 s p M M') (hp : M' p = some o') : He K S a s ns M0 M' (x :: y :: (p, o') :: L) := He.call2 (L1 := [x, y]) h e k hp
theorem He.c23 (h : He K S a s ns M0 M (x :: y :: z :: (p, o) :: L)) (e : Env K M' a s ns) (k : Keep2 s p M M') (hp : M' p = some o') : He K S a s ns M0 M' (x :: y :: z :: (p, o') :: L) := He.call2 (L1 := [x, y, z]) h e k hp
theorem Hd.perm {L' : List (Addr × MO)} (h : Hd S M0 M L) (p : L.Perm L') : Hd S M0 M L' := ⟨h.kp, fun x hx => h.ats x (p.mem_iff.mpr hx), fun x hx => h.fr x (p.mem_iff.mpr hx), (p.map _).nodup_iff.mp h.nd⟩
theorem He.perm {L' : List (Addr × MO)} (h : He K S a s ns M0 M L) (p : L.Perm L') : He K S a s ns M0 M L' := ⟨h.env, h.hd.perm p, fun hm => h.sn ((p.map _).mem_iff.mpr hm), h.sc⟩
theorem set_split {α : Type} {l : List α} {i : Nat} {x : α} (e : l[i]? = some x) : ∃ l1 l2, l = l1 ++ x :: l2 ∧ l1.length = i := by
  obtain ⟨hi, rfl⟩ := List.getElem?_eq_some_iff.mp e
  exact ⟨l.take i, l.drop (i + 1), by rw [List.getElem_cons_drop, List.take_append_drop], by rw [List.length_take]; omega⟩
theorem He.seti (h : He K S a s ns M0 M L) (i : Nat) (e : L[i]? = some (p, o)) : He K S a s ns M0 (updM M p o') (L.set i (p, o')) := by
  obtain ⟨l1, l2, rfl, rfl⟩ := set_split e
  have := h.put (o' := o')
  rw [List.set_append_right _ _ (Nat.le_refl _), Nat.sub_self]
  exact this
theorem Hd.seti (h : Hd S M0 M L) (i : Nat) (e : L[i]? = some (p, o)) : Hd S M0 (updM M p o') (L.set i (p, o')) := by
  obtain ⟨l1, l2, rfl, rfl⟩ := set_split e
  have := h.put (o' := o')
  rw [List.set_append_right _ _ (Nat.le_refl _), Nat.sub_self]
  exact this
theorem sel_nd {is : List Nat} {L L' : List (Addr × MO)} (nd : (L.map Prod.fst).Nodup) (hn : is.Nodup) (e : is.map (fun i => L[i]?) = L'.map some) : (L'.map Prod.fst).Nodup ∧ ∀ x ∈ L', ∃ i ∈ is, L[i]? = some x := by
  induction is generalizing L' with
  | nil =>
    cases L' with
    | nil => exact ⟨List.nodup_nil, by simp⟩
    | cons x l => cases e
  | cons i is ih =>
    cases L' with
    | nil => cases e
    | cons x l =>
      rw [List.map_cons, List.map_cons, List.cons.injEq] at e
      obtain ⟨h1, h2⟩ := ih (List.nodup_cons.mp hn).2 e.2
      refine ⟨?_, fun y hy => ?_⟩
      · rw [List.map_cons, List.nodup_cons]
        refine ⟨fun hm => ?_, h1⟩
        obtain ⟨y, hy, ey⟩ := List.mem_map.mp hm
        obtain ⟨j, hj, ej⟩ := h2 y hy
        have e1 : (L.map Prod.fst)[i]? = some x.1 := by rw [List.getElem?_map, e.1]; rfl
        have e2 : (L.map Prod.fst)[j]? = some x.1 := by rw [List.getElem?_map, ej, ← ey]; rfl
        have := (List.getElem?_inj (List.getElem?_eq_some_iff.mp e1).1 nd).mp (e1.trans e2.symm)
        exact (List.nodup_cons.mp hn).1 (this ▸ hj)
      · rcases List.mem_cons.mp hy with rfl | hy
        · exact ⟨i, List.mem_cons_self, e.1⟩
        · obtain ⟨j, hj, ej⟩ := h2 y hy
          exact ⟨j, List.mem_cons_of_mem _ hj, ej⟩
theorem Hd.sel {L' : List (Addr × MO)} (h : Hd S M0 M L) (is : List Nat) (hn : is.Nodup) (e : is.map (fun i => L[i]?) = L'.map some) : Hd S M0 M L' := by
  obtain ⟨h1, h2⟩ := sel_nd h.nd hn e
  have mem : ∀ x ∈ L', x ∈ L := fun x hx => by obtain ⟨i, _, q⟩ := h2 x hx; exact List.mem_of_getElem? q
  exact ⟨h.kp, fun x hx => h.ats x (mem x hx), fun x hx => h.fr x (mem x hx), h1⟩
theorem He.sel {L' : List (Addr × MO)} (h : He K S a s ns M0 M L) (is : List Nat) (hn : is.Nodup) (e : is.map (fun i => L[i]?) = L'.map some) : He K S a s ns M0 M L' := by
  obtain ⟨h1, h2⟩ := sel_nd h.hd.nd hn e
  refine ⟨h.env, h.hd.sel is hn e, fun hm => h.sn ?_, h.sc⟩
  obtain ⟨x, hx, q⟩ := List.mem_map.mp hm
  obtain ⟨i, _, q2⟩ := h2 x hx
  exact q ▸ List.mem_map_of_mem (List.mem_of_getElem? q2)
theorem He.nin {A R : List (Addr × MO)} (h : He K S a s ns M0 M (A ++ R)) (i : Nat) (e : R[i]? = some (p, o)) : p ∉ s :: A.map Prod.fst := fun hm => by
  have hx := List.mem_of_getElem? e
  rcases List.mem_cons.mp hm with q | hm
  · exact h.sn (by rw [List.map_append]; exact List.mem_append_right _ (q ▸ List.mem_map_of_mem hx))
  · have nd := h.hd.nd
    rw [List.map_append] at nd
    exact (List.nodup_append.mp nd).2.2 _ hm _ (List.mem_map_of_mem hx) rfl
theorem He.nino (h : He K [] a s ns M0 M L) (n : p ≠ s) (e : M0 p = some o) : p ∉ s :: L.map Prod.fst := fun hm => by
  rcases List.mem_cons.mp hm with q | hm
  · exact n q
  · obtain ⟨x, hx, q⟩ := List.mem_map.mp hm
    rcases h.hd.fr x hx with f | f
    · rw [q, e] at f; cases f
    · exact n (q ▸ List.mem_singleton.mp f)
/-- from here on: what stands in L may change, all else stays -/
theorem He.again (h : He K S a s ns M0 M L) : He K (L.map Prod.fst) a s ns M M L := by
  refine ⟨h.env, ⟨fun _ _ _ e => e, h.hd.ats, fun x hx => .inr (List.mem_cons_of_mem _ (List.mem_map_of_mem hx)), h.hd.nd⟩, h.sn, ?_⟩
  rcases h.sc with q | ⟨q, u, hu⟩
  · exact .inl q
  · refine .inr ⟨fun hm => ?_, u, h.hd.kp _ _ q hu⟩
    rcases List.mem_cons.mp hm with e | hm
    · exact q (e ▸ List.mem_cons_self)
    · obtain ⟨x, hx, e⟩ := List.mem_map.mp hm
      rcases h.hd.fr x hx with f | f
      · rw [e, hu] at f; cases f
      · exact q (e ▸ f)
/-- a new object p that its maker has changed, and one that it has made -/
theorem Hd.madeS (hp : M p = some o) (k : Keep p M M') (hp' : M' p = some o') : Sub (updM M p o') M' := fun b u e => by
  by_cases q : b = p
  · subst q; rw [updM_same] at e; cases e; exact hp'
  · rw [updM_ne q] at e; exact k _ _ q e
theorem Hd.kept (h : Hd S M0 M ((p, o) :: L)) (k : Keep p M M') (hp : M' p = some o') : Hd S M0 M' ((p, o') :: L) := h.up0.step (Hd.madeS (h.get 0 rfl) k hp)
theorem Hd.kepti (h : Hd S M0 M L) (i : Nat) (e : L[i]? = some (p, o)) (k : Keep p M M') (hp : M' p = some o') : Hd S M0 M' (L.set i (p, o')) := (h.seti i e).step (Hd.madeS (h.get i e) k hp)
theorem Hd.made {d : Addr} {od : MO} (h : Hd S M0 M ((p, o) :: L)) (k : Keep p M M') (hp : M' p = some o') (hd : M d = none) (hd' : M' d = some od) : Hd S M0 M' ((d, od) :: (p, o') :: L) := by
  have hpM := h.get 0 rfl
  have dp : d ≠ p := fun e => by subst e; rw [hpM] at hd; cases hd
  have h2 := h.up0 (o' := o')
  have h3 := h2.new (o := od) (p := d) (by rw [updM_ne dp]; exact hd)
  refine h3.step fun b u e => ?_
  by_cases q : b = d
  · subst q; rw [updM_same] at e; cases e; exact hd'
  · rw [updM_ne q] at e; exact Hd.madeS hpM k hp b u e
/-- all but S persists -/
abbrev KeepS (S : List Addr) (M M' : PHp) : Prop := ∀ b o, b ∉ S → M b = some o → M' b = some o
theorem Hd.keepS (h : Hd S M0 M L) : KeepS S M0 M := h.kp
theorem He.kept (h : He K S a s ns M0 M ((p, o) :: L)) (k : Keep p M M') (hp : M' p = some o') : He K S a s ns M0 M' ((p, o') :: L) := h.up0.step (Hd.madeS (h.get 0 rfl) k hp)
theorem He.kepti (h : He K S a s ns M0 M L) (i : Nat) (e : L[i]? = some (p, o)) (k : Keep p M M') (hp : M' p = some o') : He K S a s ns M0 M' (L.set i (p, o')) := (h.seti i e).step (Hd.madeS (h.get i e) k hp)
theorem He.made {d : Addr} {od : MO} (h : He K S a s ns M0 M ((p, o) :: L)) (k : Keep p M M') (hp : M' p = some o') (hd : M d = none) (hd' : M' d = some od) : He K S a s ns M0 M' ((d, od) :: (p, o') :: L) := by
  have hpM := h.get 0 rfl
  have dp : d ≠ p := fun e => by subst e; rw [hpM] at hd; cases hd
  have h2 := h.up0 (o' := o')
  have h3 := h2.new (o := od) (p := d) (by rw [updM_ne dp]; exact hd)
  refine h3.step fun b u e => ?_
  by_cases q : b = d
  · subst q; rw [updM_same] at e; cases e; exact hd'
  · rw [updM_ne q] at e; exact Hd.madeS hpM k hp b u e
/-- behind a call that changes what stands at G's places -/
theorem He.callS {L1 G L2 G' : List (Addr × MO)} (h : He K S a s ns M0 M (L1 ++ (G ++ L2))) (hk : KeepS (G.map Prod.fst) M M') (hG : ∀ x ∈ G', M' x.1 = some x.2) (e : G'.map Prod.fst = G.map Prod.fst) : He K S a s ns M0 M' (L1 ++ (G' ++ L2)) := by
  have inG : ∀ b, b ∈ G.map Prod.fst → M0 b = none ∨ b ∈ s :: S := fun b hb => by
    obtain ⟨x, hx, q⟩ := List.mem_map.mp hb
    exact q ▸ h.hd.fr x (List.mem_append_right _ (List.mem_append_left _ hx))
  have old : ∀ b o, b ∉ s :: S → M0 b = some o → b ∉ G.map Prod.fst := fun b o nb hb hm => by
    rcases inG b hm with q | q
    · rw [q] at hb; cases hb
    · exact nb q
  have sn : s ∉ G.map Prod.fst := fun hm => h.sn (by rw [List.map_append, List.map_append]; exact List.mem_append_right _ (List.mem_append_left _ hm))
  have nd := h.hd.nd
  rw [List.map_append, List.map_append] at nd
  have n1 := List.nodup_append.mp nd
  have n2 := List.nodup_append.mp n1.2.1
  refine ⟨?_, ⟨fun b u nb hb => ?_, fun x hx => ?_, fun x hx => ?_, ?_⟩, ?_, h.sc⟩
  · obtain ⟨i, c, m, g1, g2, g3, g4⟩ := h.env.src
    refine ⟨?_, ⟨i, c, m, hk _ _ sn g1, g2, g3, g4⟩, h.env.len, h.env.bits⟩
    rcases h.sc with q | ⟨q, u, hu⟩
    · exact .inr q
    have an := old a u q hu
    rcases h.env.rd0 with ⟨n, f | f⟩ | f
    · exact .inl ⟨n, .inl (hk _ _ an f)⟩
    · exact .inl ⟨n, .inr (hk _ _ an f)⟩
    · exact .inr f
  · exact hk _ _ (old b u nb hb) (h.hd.kp b u nb hb)
  · rcases List.mem_append.mp hx with hx | hx
    · exact hk _ _ (fun hm => n1.2.2 _ (List.mem_map_of_mem hx) _ (List.mem_append_left _ hm) rfl) (h.hd.ats x (List.mem_append_left _ hx))
    rcases List.mem_append.mp hx with hx | hx
    · exact hG x hx
    · exact hk _ _ (fun hm => n2.2.2 _ hm _ (List.mem_map_of_mem hx) rfl) (h.hd.ats x (List.mem_append_right _ (List.mem_append_right _ hx)))
  · rcases List.mem_append.mp hx with hx | hx
    · exact h.hd.fr x (List.mem_append_left _ hx)
    rcases List.mem_append.mp hx with hx | hx
    · exact inG _ (e ▸ List.mem_map_of_mem hx)
    · exact h.hd.fr x (List.mem_append_right _ (List.mem_append_right _ hx))
  · rw [List.map_append, List.map_append, e]; exact nd
  · have := h.sn
    rw [List.map_append, List.map_append] at this ⊢
    rw [e]; exact this
/-- a new object, known behind a call that adds alone -/
theorem He.addn (h : He K S a s ns M0 M L) (k : Sub M M') (hp : M p = none) (hp' : M' p = some o) : He K S a s ns M0 M' ((p, o) :: L) := by
  refine (h.new (o := o) hp).step fun b u e => ?_
  by_cases q : b = p
  · subst q; rw [updM_same] at e; cases e; exact hp'
  · rw [updM_ne q] at e; exact k b u e
theorem He.adds (h : He K S a s ns M0 M L) (k : Sub M M') {N : List (Addr × MO)} (hN : ∀ x ∈ N, M x.1 = none ∧ M' x.1 = some x.2) (nd : (N.map Prod.fst).Nodup) : He K S a s ns M0 M' (N ++ L) := by
  have h2 := h.step k
  refine ⟨h2.env, ⟨h2.hd.kp, fun x hx => ?_, fun x hx => ?_, ?_⟩, ?_, h.sc⟩
  · rcases List.mem_append.mp hx with hx | hx
    · exact (hN x hx).2
    · exact h2.hd.ats x hx
  · rcases List.mem_append.mp hx with hx | hx
    · by_cases q : x.1 ∈ s :: S
      · exact .inr q
      · left
        cases e : M0 x.1 with
        | none => rfl
        | some u => have := h.hd.kp _ _ q e; rw [(hN x hx).1] at this; cases this
    · exact h2.hd.fr x hx
  · rw [List.map_append]
    refine List.nodup_append.mpr ⟨nd, h2.hd.nd, fun y hy z hz e => ?_⟩
    obtain ⟨x, hx, rfl⟩ := List.mem_map.mp hy
    obtain ⟨v, hv, q⟩ := List.mem_map.mp hz
    have := h.hd.ats v hv
    rw [q, ← e, (hN x hx).1] at this; cases this
  · rw [List.map_append]
    intro hm
    rcases List.mem_append.mp hm with hm | hm
    · obtain ⟨x, hx, q⟩ := List.mem_map.mp hm
      obtain ⟨i, c, m, g1, _⟩ := h.env.src
      rw [← q, (hN x hx).1] at g1; cases g1
    · exact h2.sn hm
/-- more that may change from here on -/
theorem He.more (h : He K S a s ns M M L) {N : List (Addr × MO)} (hN : ∀ x ∈ N, M x.1 = some x.2 ∧ x.1 ∉ s :: S) (hS : ∀ x ∈ L, x.1 ∈ s :: S) (nd : (N.map Prod.fst).Nodup) (na : ∀ x ∈ N, KL K a (ns.map PV.int) ∨ x.1 ≠ a) : He K (S ++ N.map Prod.fst) a s ns M M (L ++ N) := by
  refine ⟨h.env, ⟨fun _ _ _ e => e, fun x hx => ?_, fun x hx => .inr ?_, ?_⟩, ?_, ?_⟩
  · rcases List.mem_append.mp hx with hx | hx
    · exact h.hd.ats x hx
    · exact (hN x hx).1
  · rcases List.mem_append.mp hx with hx | hx
    · rcases List.mem_cons.mp (hS x hx) with q | q
      · rw [q]; exact List.mem_cons_self
      · exact List.mem_cons_of_mem _ (List.mem_append_left _ q)
    · exact List.mem_cons_of_mem _ (List.mem_append_right _ (List.mem_map_of_mem hx))
  · rw [List.map_append]
    refine List.nodup_append.mpr ⟨h.hd.nd, nd, fun y hy z hz e => ?_⟩
    obtain ⟨x, hx, rfl⟩ := List.mem_map.mp hy
    obtain ⟨v, hv, q⟩ := List.mem_map.mp hz
    exact (hN v hv).2 (by rw [q, ← e]; exact hS x hx)
  · rw [List.map_append]
    intro hm
    rcases List.mem_append.mp hm with hm | hm
    · exact h.sn hm
    · obtain ⟨x, hx, q⟩ := List.mem_map.mp hm
      exact (hN x hx).2 (by rw [q]; exact List.mem_cons_self)
  · rcases h.sc with q | ⟨q, u, hu⟩
    · exact .inl q
    by_cases kl : KL K a (ns.map PV.int)
    · exact .inl kl
    refine .inr ⟨fun hm => ?_, u, hu⟩
    rcases List.mem_cons.mp hm with e | hm
    · exact q (e ▸ List.mem_cons_self)
    rcases List.mem_append.mp hm with hm | hm
    · exact q (List.mem_cons_of_mem _ hm)
    · obtain ⟨x, hx, e⟩ := List.mem_map.mp hm
      rcases na x hx with f | f
      · exact kl f
      · exact f e
/-- new lists -/
theorem al {R : Addr → Prop} (h : He K S a s ns M0 M L) (k : ∀ p, M p = none → (∀ o, He K S a s ns M0 (updM M p o) ((p, o) :: L)) → R p) : ∀ p, M p = none → R p := fun p hp => k p hp fun _ => h.new hp
theorem ald {R : Addr → Prop} (h : Hd S M0 M L) (k : ∀ p, M p = none → (∀ o, Hd S M0 (updM M p o) ((p, o) :: L)) → R p) : ∀ p, M p = none → R p := fun p hp => k p hp fun _ => h.new hp
/-- a draw -/
theorem dr {l : Int} {R : Int → PHp → Prop} (h : He K S a s ns M0 M L) (h0 : 0 < l) (hb : intBits l ≤ 64) (k : ∀ r M', 0 ≤ r → r < l → He K S a s ns M0 M' L → R r M') :
    ∃ (a' s' : Addr) (ns' : List Int) (l' : Int), [PV.ref a, .ref s, .int l] = [.ref a', .ref s', .int l'] ∧ Env K M a' s' ns' ∧ 0 < l' ∧ intBits l' ≤ 64 ∧ ∀ r M', 0 ≤ r → r < l' → Env K M' a' s' ns' → Keep s' M M' → R r M' :=
  ⟨a, s, ns, l, rfl, h.env, h0, hb, fun r M' h1 h2 e k' => k r M' h1 h2 (h.call e k')⟩
end
theorem ixN_of {n j : Nat} (h : j < n) : ixN n (j : Int) = some j := by
  unfold ixN
  rw [if_pos (by omega), if_pos (by omega)]; rfl
/-! shapes of questions -/
section
variable {K : Kf} {M : PHp} {a : Addr} {l xs : List PV} {i j : Int} {k : Nat} {A B : Prop} {b : Bool}
theorem shp_br (h : br b A B) : br b A B := h
theorem shp_ixl {R : PV → Prop} (h : ∃ l, rdL K M a l ∧ ∃ v, atI l i = some v ∧ R v) : ∃ l, rdL K M a l ∧ ∃ v, atI l i = some v ∧ R v := h
theorem shp_ixt {R : PV → Prop} (h : ∃ v, atI l i = some v ∧ R v) : ∃ v, atI l i = some v ∧ R v := h
theorem shp_rd {R : List PV → Prop} (h : ∃ l, rdL K M a l ∧ R l) : ∃ l, rdL K M a l ∧ R l := h
theorem shp_set {R : List PV → Nat → Prop} (h : ∃ xs j, M a = some (.lst xs) ∧ ixN xs.length i = some j ∧ R xs j) : ∃ xs j, M a = some (.lst xs) ∧ ixN xs.length i = some j ∧ R xs j := h
theorem shp_sz (h : xs.length ≤ sizeLine ∧ B) : xs.length ≤ sizeLine ∧ B := h
theorem shp_mul (h : IntMulOk i j ∧ B) : IntMulOk i j ∧ B := h
theorem shp_ne (h : j ≠ 0 ∧ B) : j ≠ 0 ∧ B := h
theorem shp_pow (h : (0 ≤ j ∧ j ≤ 1000000 ∧ i.natAbs < 2 ^ 64) ∧ B) : (0 ≤ j ∧ j ≤ 1000000 ∧ i.natAbs < 2 ^ 64) ∧ B := h
theorem shp_kit {t s : String} (h : isiKit t s = true ∧ B) : isiKit t s = true ∧ B := h
theorem shp_tup (h : xs.length = k ∧ B) : xs.length = k ∧ B := h
theorem shp_ty {T : String} {x : PV} (h : tyP K T x M ∧ B) : tyP K T x M ∧ B := h
theorem shp_isi {p : PV} {n : String} {R : String → Prop} (h : ∃ t, tyName K M p t ∧ isiKit t n = true ∧ R t) : ∃ t, tyName K M p t ∧ isiKit t n = true ∧ R t := h
end
/-! instances -/
section
variable {K : Kf} {M : PHp} {a C dx : Addr} {fs fs' : List (Str × PV)} {f : Str} {v : PV} {B : Prop}
theorem shp_fld {R : PV → Prop} (h : ∃ C dx fs v, M a = some (.ins C dx fs) ∧ FldOk K C f ∧ fs.lookup f = some v ∧ R v) : ∃ C dx fs v, M a = some (.ins C dx fs) ∧ FldOk K C f ∧ fs.lookup f = some v ∧ R v := h
theorem g_fld {R : PV → Prop} (h : M a = some (.ins C dx fs)) (ok : FldOk K C f) (l : fs.lookup f = some v) (q : R v) : ∃ C dx fs v, M a = some (.ins C dx fs) ∧ FldOk K C f ∧ fs.lookup f = some v ∧ R v := ⟨_, _, _, _, h, ok, l, q⟩
theorem shp_fls {R : Addr → Addr → List (Str × PV) → Prop} (h : ∃ C dx fs fs', M a = some (.ins C dx fs) ∧ FldOk K C f ∧ fs.length < 1000 ∧ fs' = putX f v fs ∧ R C dx fs') : ∃ C dx fs fs', M a = some (.ins C dx fs) ∧ FldOk K C f ∧ fs.length < 1000 ∧ fs' = putX f v fs ∧ R C dx fs' := h
theorem g_fls {R : Addr → Addr → List (Str × PV) → Prop} (h : M a = some (.ins C dx fs)) (ok : FldOk K C f) (l : fs.length < 1000) (e : fs' = putX f v fs) (q : R C dx fs') : ∃ C dx fs fs', M a = some (.ins C dx fs) ∧ FldOk K C f ∧ fs.length < 1000 ∧ fs' = putX f v fs ∧ R C dx fs' := ⟨_, _, _, _, h, ok, l, e, q⟩
theorem shp_mth (h : (∃ dx fs, M a = some (.ins C dx fs) ∧ fs.lookup f = none) ∧ B) : (∃ dx fs, M a = some (.ins C dx fs) ∧ fs.lookup f = none) ∧ B := h
theorem g_mth (h : ∃ dx fs, M a = some (.ins C dx fs) ∧ fs.lookup f = none) (q : B) : (∃ dx fs, M a = some (.ins C dx fs) ∧ fs.lookup f = none) ∧ B := ⟨h, q⟩
theorem shp_prp (h : (∃ dx fs, M a = some (.ins C dx fs)) ∧ B) : (∃ dx fs, M a = some (.ins C dx fs)) ∧ B := h
theorem g_prp (h : ∃ dx fs, M a = some (.ins C dx fs)) (q : B) : (∃ dx fs, M a = some (.ins C dx fs)) ∧ B := ⟨h, q⟩
end

local macro_rules | `(tactic| walk_at "w") => `(tactic| (conv => whnf))
local macro_rules | `(tactic| walk_at "as") => `(tactic| with_reducible assumption)
local macro_rules | `(tactic| walk_at "ix") => `(tactic| first
  | exact He.g0 (by walk_at "as")
  | exact He.g1 (by walk_at "as")
  | exact He.g2 (by walk_at "as")
  | exact He.g3 (by walk_at "as")
  | exact He.g4 (by walk_at "as")
  | exact He.g5 (by walk_at "as")
  | exact Hd.g0 (by walk_at "as")
  | exact Hd.g1 (by walk_at "as")
  | exact Hd.g2 (by walk_at "as")
  | exact Hd.g3 (by walk_at "as"))
local macro_rules | `(tactic| walk_at "nin") => `(tactic| first
  | walk_at "as"
  | (simp only [List.mem_cons, List.not_mem_nil, or_false, not_or]; refine ⟨?_, ?_⟩ <;> assumption)
  | (simp only [List.mem_cons, List.not_mem_nil, or_false]; assumption)
  | simp)
local macro_rules | `(tactic| walk_at "hp") => `(tactic| first
  | walk_at "as"
  | exact updM_same
  | walk_at "ix"
  | exact He.old (by walk_at "as") (by walk_at "nin") (by walk_at "as")
  | exact Hd.kp (by walk_at "as") _ _ (by walk_at "nin") (by walk_at "as")
  | assumption
  | (rw [updM_ne (by assumption)]; assumption)
  | (rw [updM_ne (Ne.symm (by assumption))]; assumption))
local macro_rules | `(tactic| walk_at "rd") => `(tactic| first
  | assumption
  | exact .inl (by walk_at "hp")
  | exact He.rd (by walk_at "as")
  | exact Env.rd (by assumption))
local macro_rules | `(tactic| walk_at "keep") => `(tactic| first | assumption | exact Keep.refl _ _ | (refine Keep.put1 ?_; walk_at "keep") | (refine Keep.new1 ?_ (by assumption); walk_at "keep") | (refine Keep.trans ?_ (by assumption); walk_at "keep"))
local macro_rules | `(tactic| walk_at "he") => `(tactic| first
  | assumption
  | exact He.up0 (by walk_at "he")
  | exact He.up1 (by walk_at "he")
  | exact He.up2 (by walk_at "he")
  | exact He.up3 (by walk_at "he")
  | exact He.up4 (by walk_at "he")
  | exact He.new (by walk_at "he") (by walk_at "as"))
local macro_rules | `(tactic| walk_at "hd") => `(tactic| first
  | assumption
  | exact Hd.up0 (by walk_at "hd")
  | exact Hd.up1 (by walk_at "hd")
  | exact Hd.up2 (by walk_at "hd")
  | exact Hd.up3 (by walk_at "hd")
  | exact Hd.up4 (by walk_at "hd")
  | exact Hd.new (by walk_at "hd") (by walk_at "as"))
local macro_rules | `(tactic| walk_at "lk") => `(tactic| first | exact lk_hit | exact lk_nil | exact lk_miss (by decide +kernel) (by walk_at "lk"))
local macro_rules | `(tactic| walk_at "px") => `(tactic| first | exact px_hit | exact px_nil | exact px_miss (by decide +kernel) (by walk_at "px"))
local macro_rules | `(tactic| walk_at "subs") => `(tactic| repeat (first | exact SubS.nil | refine SubS.same ?_ | refine SubS.none ?_))
local macro_rules | `(tactic| walk_at "p1") => `(tactic| (conv => whnf) <;> first
  | refine stp ?_
  | ((with_reducible refine shp_br ?_); first
    | (with_reducible refine br_tt ?_)
    | (with_reducible refine br_ff ?_)
    | (with_reducible refine br_nt ?_)
    | (with_reducible refine br_nf ?_)
    | (with_reducible refine br_i1 (by decide) ?_)
    | (with_reducible refine br_i0 (by decide) ?_)
    | (with_reducible refine br_n1 (by decide) ?_)
    | (with_reducible refine br_n0 (by decide) ?_))
  | ((with_reducible refine shp_sz ?_); refine g_sz (szl rfl) ?_)
  | ((with_reducible refine shp_ixl ?_); refine g_ixl (by walk_at "rd") (by first | exact rfl | assumption) ?_)
  | ((with_reducible refine shp_ixt ?_); first
    | refine g_ixt rfl ?_
    | refine g_ixt (by assumption) ?_)
  | ((with_reducible refine shp_rd ?_); refine g_rd (by walk_at "rd") ?_)
  | ((with_reducible refine shp_set ?_); refine g_set (by walk_at "hp") rfl ?_)
  | ((with_reducible refine shp_mul ?_); first
    | refine g_mul (IntMulOk.of_right (by decide)) ?_
    | refine g_mul (IntMulOk.of_left (by decide)) ?_
    | refine g_mul (by assumption) ?_)
  | ((with_reducible refine shp_ne ?_); first
    | refine g_ne (by decide) ?_
    | refine g_ne (by first | assumption | omega) ?_)
  | ((with_reducible refine shp_pow ?_); refine g_pow (by decide) ?_)
  | ((with_reducible refine shp_kit ?_); refine g_kit (by decide) ?_)
  | ((with_reducible refine shp_tup ?_); refine g_tup rfl ?_)
  | ((with_reducible refine shp_isi ?_); first
    | (refine g_isiL (by walk_at "hp") (by decide) ?_)
    | (refine g_isiD (by walk_at "hp") (by decide) ?_))
  | (with_reducible refine g_ins ?_)
  | (with_reducible refine g_ini ?_)
  | ((with_reducible refine shp_fld ?_); refine g_fld (by walk_at "hp") (by walk_at "as") (by walk_at "lk") ?_)
  | ((with_reducible refine shp_fls ?_); refine g_fls (by walk_at "hp") (by walk_at "as") (Nat.le_of_ble_eq_true rfl) (by walk_at "px") ?_)
  | ((with_reducible refine shp_mth ?_); refine g_mth ⟨_, _, (by walk_at "hp"), (by walk_at "lk")⟩ ?_)
  | ((with_reducible refine shp_prp ?_); refine g_prp ⟨_, _, (by walk_at "hp")⟩ ?_)
  | ((with_reducible refine shp_ty ?_); refine g_ty (.inl ⟨rfl, _, (by walk_at "rd")⟩) ?_))
local macro_rules | `(tactic| walk_at "on") => `(tactic| ((repeat walk_at "p1"); (try (conv => whnf))))
local macro_rules | `(tactic| walk_at "go") => `(tactic| ((try dsimp only [defCx, defCxR, Cx.nox, Cx.wish, cxOf]); walk_at "on"))

theorem ok__law_draw {P : Program} {w : World} {K : Kf} {mg : Str → Option Value} {base : Heap} (h0 : Here K mg "_law_draw" s__law_draw ["script", "source", "limit"]) (T : Blt mg) (Su : Sure P base)  : Callee P w K mg base 34 "_law_draw" ["script", "source", "limit"] (sp__law_draw K) := by
  refine ok_of h0 sc__law_draw (fun vs M Q E h => sp__law_draw_len h) (fun f cdv A outer s H E hr => ⟨_, (psscut (psif (PW.pt (pwand (ptcmp (opEqK (K := K) (by exact hr.units)) (pixK (K := K) (pv 1) pinT) pinT (nomark _)) (pwand1 (ptcmp (opLt (by exact hr.units0)) (pixK (K := K) (pv 1) pinT) (pcallB (cLenK (K := K)) (by rfl) T.b_len (by decide +kernel) (pacons (pv 0) panil)) (nomark _))))) (psscons (psset 3 sc__law_draw.nd (pcallB cAbs (by rfl) T.b_abs (by decide +kernel) (pacons (pixK (K := K) (pv 0) (pixK (K := K) (pv 1) pinT)) panil)))
      (psscons (psasg (pop opAdd (pixK (K := K) (pv 1) pinT) pinT) (pgsub (pv 1) pinT))
      (psscons (psif (ptcmp (opLt (by exact hr.units0)) (pv 3) (pop opPow pinT pinT) (nomark _)) (psscons (psset 3 sc__law_draw.nd (pop opMod (pcallTy cInt (by rfl) T.b_int (by decide +kernel) (pacons (pop opAdd (pop opAdd (pop opMul (pv 3) pinT) (pop opMul (pixK (K := K) (pv 1) pinT) pinT)) (pixK (K := K) (pv 1) pinT)) panil)) pinT))
      (pssone (psset 3 sc__law_draw.nd (pop opMod (pcallTy cInt (by rfl) T.b_int (by decide +kernel) (pacons (pop opAdd (pop opAdd (pop opMul (pv 3) (pv 3)) (pop opMul (pv 3) pinT)) (pixK (K := K) (pv 1) pinT)) panil)) pinT)))) pssnil)
      (pssone (psasg (pv 3) (pgsub (pv 1) pinT)))))) pssnil)
      (psscons (psif (ptcmp opGt (pixK (K := K) (pv 1) pinT) pinT (nomark _)) (psscons (psset 4 sc__law_draw.nd (pop opMod (pcallTy cInt (by rfl) T.b_int (by decide +kernel) (pacons (pixK (K := K) (pv 1) pinT) panil)) (pv 2)))
      (psscons (psasg (pop (opFdiv Su (by exact hr.mono (by first | decide | omega))) (pixK (K := K) (pv 1) pinT) (pv 2)) (pgsub (pv 1) pinT))
      (pssone (psret (pv 4))))) pssnil)
      (psscons (psasg (pop opMod (pcallTy cInt (by rfl) T.b_int (by decide +kernel) (pacons (pop opAdd (pop opMul (pixK (K := K) (pv 1) pinT) pinT) pinT) panil)) pinT) (pgsub (pv 1) pinT))
      (pssone (psret (pop opMod (pcallTy cInt (by rfl) T.b_int (by decide +kernel) (pacons (pop (opFdiv Su (by exact hr.mono (by first | decide | omega))) (pixK (K := K) (pv 1) pinT) pinT) panil)) (pv 2))))))), fun vs M Q Ep h => ?_⟩)
  obtain ⟨a, s, ns, l, rfl, e, hl, hb, k⟩ := h
  obtain ⟨i, c, m, hs, hi, hc, hm⟩ := e.src
  refine ⟨fun σ M1 => σ = [some (.ref a), some (.ref s), some (.int l), none, none] ∧ Env K M1 a s ns ∧ Keep s M M1, ?_, ?_⟩
  · walk_at "go"
    refine br_dec (fun h0 => ?_) (fun h0 => ?_)
    · walk_at "on"
      refine br_dec (fun h1 => ?_) (fun h1 => ?_)
      · rw [List.length_map] at h1
        obtain ⟨z, hz1, hz2, hz3⟩ := at_ints hi h1
        walk_at "on"
        refine br_dec (fun h2 => ?_) (fun h2 => ?_)
        · rw [p18] at h2
          walk_at "on"
          refine ⟨small_ok ?_, ?_⟩
          · have f := fm (i := (z.natAbs : Int) * 48271 + (i + 1) * 69621 + m) (j := 2147483647) (by decide)
            omega
          walk_at "on"
          refine ⟨_, _, ⟨?_, .refl _, rfl, e.to (by walk_at "keep") updM_same (by omega) (fm (by decide)).1 hm, by walk_at "keep"⟩⟩
          walk_at "subs"
        · walk_at "on"
          refine ⟨_, _, ⟨?_, .refl _, rfl, e.to (by walk_at "keep") updM_same (by omega) (by omega) hm, by walk_at "keep"⟩⟩
          walk_at "subs"
      · walk_at "on"
        exact ⟨_, _, .refl _, .refl _, rfl, e, .refl _ _⟩
    · walk_at "on"
      exact ⟨_, _, .refl _, .refl _, rfl, e, .refl _ _⟩
  · rintro σ M1 ⟨rfl, e1, k1⟩
    obtain ⟨i, c, m, hs, hi, hc, hm⟩ := e1.src
    walk_at "go"
    refine br_dec (fun h0 => ?_) (fun h0 => ?_)
    · walk_at "on"
      obtain ⟨f1, f2⟩ := fm (i := c) hl
      exact ⟨_, .refl _, k _ _ f1 f2 (e1.to (by walk_at "keep") updM_same hi (fd0 hc hl) hm) (k1.trans (by walk_at "keep"))⟩
    · walk_at "on"
      obtain ⟨f1, f2⟩ := fm (i := (Int.fmod (m * 69621 + 4321) 2147483647).fdiv 97) hl
      exact ⟨_, .refl _, k _ _ f1 f2 (e1.to (by walk_at "keep") updM_same hi hc (fm (by decide)).1) (k1.trans (by walk_at "keep"))⟩

/-- a source is made -/
def sp__law_source (K : Kf) : PSpec := fun vs M Q _ => ∃ (a : Addr) (ns : List Int), vs = [.ref a] ∧ rdL K M a (ns.map PV.int) ∧ ∀ p M' m, M p = none → Sub M M' → M' p = some (SL 0 0 m) → 0 ≤ m → Q (.ref p) M'
theorem sp__law_source_len {K : Kf} {vs : List PV} {M : PHp} {Q : PVK} {E : PXK} (h : sp__law_source K vs M Q E) : vs.length = 1 := by
  obtain ⟨_, _, rfl, _⟩ := h; rfl

theorem ok__law_source {P : Program} {w : World} {K : Kf} {mg : Str → Option Value} {base : Heap} (h0 : Here K mg "_law_source" s__law_source ["script"]) (T : Blt mg) (Su : Sure P base)  : Callee P w K mg base 34 "_law_source" ["script"] (sp__law_source K) := by
  refine ok_of h0 sc__law_source (fun vs M Q E h => sp__law_source_len h) (fun f cdv A outer s H E hr => ⟨_, (psscons (psset 1 sc__law_source.nd pinT)
      (psscons (psfor PassesOwn.never rfl (piseqK (K := K) (pv 0)) (pgname (i := 2) sc__law_source.nd) (pssone (psset 1 sc__law_source.nd (pop opMod (pcallTy cInt (by rfl) T.b_int (by decide +kernel) (pacons (pop opAdd (pop opAdd (pop opMul (pv 1) pinT) (pop opMul (pv 2) pinT)) pinT) panil)) pinT))))
      (pssone (psret (plst (pacons pinT (pacons pinT (pacons (pv 1) panil)))))))), fun vs M Q Ep h => ?_⟩)
  obtain ⟨a, ns, rfl, hr1, k⟩ := h
  walk_at "go"
  refine ⟨fun _ σ M' => ∃ m, σ = [some (.ref a), some (.int m), none] ∧ M' = M ∧ 0 ≤ m ∧ m < 2147483647, ⟨_, _, .refl _, .refl _, 20011, rfl, rfl, by decide, by decide⟩, ?_, ?_, ?_⟩
  · rintro _ σ M' ⟨m, rfl, rfl, _⟩
    exact hr1
  · rintro i x σ M' hx ⟨m, rfl, rfl, h0, h1⟩
    rw [List.getElem?_map] at hx
    cases hx2 : ns[i]? with
    | none => rw [hx2] at hx; cases hx
    | some z =>
      rw [hx2] at hx; cases hx
      walk_at "on"
      exact ⟨_, _, by walk_at "subs", .refl _, _, rfl, rfl, fm (by decide)⟩
  · rintro σ M' ⟨m, rfl, rfl, h0, h1⟩
    walk_at "on"
    intro p hp
    exact ⟨_, .refl _, k p _ m hp (.new hp) updM_same h0⟩

theorem fdiv_mul {c x : Int} (h : c ≠ 0) : (c * x).fdiv c = x := by
  rw [Int.mul_comm]; exact Int.mul_fdiv_cancel x h
/-- the greatest common divisor of the numbers -/
def gl (ws : List Int) : Nat := ws.foldl (fun g w => Nat.gcd g w.natAbs) 0
theorem gl_from (ws : List Int) : ∀ g : Nat, ws.foldl (fun g w => Nat.gcd g w.natAbs) g = Nat.gcd g (gl ws) := by
  induction ws with
  | nil => intro g; simp [gl]
  | cons w r ih =>
    intro g
    have h : gl (w :: r) = Nat.gcd (Nat.gcd 0 w.natAbs) (gl r) := by
      show List.foldl _ (Nat.gcd 0 w.natAbs) r = _
      rw [ih]
    rw [List.foldl_cons, ih, h, Nat.gcd_zero_left, Nat.gcd_assoc]
theorem gl_cons (w : Int) (r : List Int) : gl (w :: r) = Nat.gcd w.natAbs (gl r) := by
  show List.foldl _ (Nat.gcd 0 w.natAbs) r = _
  rw [gl_from, Nat.gcd_zero_left]
theorem gl_snoc (r : List Int) (w : Int) : gl (r ++ [w]) = Nat.gcd (gl r) w.natAbs := by
  unfold gl
  rw [List.foldl_append]; rfl
theorem gl_dvd {ws : List Int} : ∀ w ∈ ws, ((gl ws : Nat) : Int) ∣ w := by
  induction ws with
  | nil => intro w h; cases h
  | cons x r ih =>
    intro w h
    rw [gl_cons]
    rcases List.mem_cons.mp h with rfl | h
    · exact Int.natAbs_dvd_natAbs.mp (by rw [Int.natAbs_natCast]; exact Nat.gcd_dvd_left _ _)
    · exact Int.dvd_trans (Int.natAbs_dvd_natAbs.mp (by rw [Int.natAbs_natCast, Int.natAbs_natCast]; exact Nat.gcd_dvd_right _ _)) (ih w h)
theorem gl_mul (g : Int) (ws : List Int) : gl (ws.map (g * ·)) = g.natAbs * gl ws := by
  induction ws with
  | nil => simp [gl]
  | cons x r ih => rw [List.map_cons, gl_cons, gl_cons, ih, Int.natAbs_mul, Nat.gcd_mul_left]
theorem gl_zero {ws : List Int} (h : gl ws = 0) : ∀ w ∈ ws, w = 0 := fun w hw => by
  have := gl_dvd w hw
  rw [h] at this
  exact Int.zero_dvd.mp this
/-- the weights divided by their greatest common divisor -/
inductive IsRed (ws rs : List Int) : Prop
  | zero (h : ∀ w ∈ ws, w = 0) (e : rs = ws)
  | pos (g : Int) (hg : 0 < g) (e : ws = rs.map (g * ·)) (h : gl rs = 1)
theorem isRed_of {ws : List Int} (h : gl ws ≠ 0) : IsRed ws (ws.map fun w => w.fdiv (gl ws : Nat)) := by
  have g0 : ((gl ws : Nat) : Int) ≠ 0 := by omega
  have e : ws = (ws.map fun w => w.fdiv (gl ws : Nat)).map (((gl ws : Nat) : Int) * ·) := by
    rw [List.map_map]
    conv => lhs; rw [← List.map_id ws]
    refine List.map_congr_left fun w hw => ?_
    obtain ⟨x, hx⟩ := gl_dvd w hw
    show w = ((gl ws : Nat) : Int) * w.fdiv _
    conv => rhs; rw [hx, fdiv_mul g0]
    exact hx
  refine .pos (gl ws : Nat) (by omega) e ?_
  have h2 := congrArg gl e
  rw [gl_mul, Int.natAbs_natCast] at h2
  have h3 : gl ws * 1 = gl ws * gl (ws.map fun w => w.fdiv (gl ws : Nat)) := by rw [Nat.mul_one]; exact h2
  exact (Nat.eq_of_mul_eq_mul_left (by omega) h3).symm
theorem IsRed.len {ws rs : List Int} (h : IsRed ws rs) : rs.length = ws.length := by
  cases h with
  | zero h e => rw [e]
  | pos g hg e h => rw [e, List.length_map]
/-- a tuple or a list -/
def SeqV (K : Kf) (M : PHp) (x : PV) (l : List PV) : Prop := x = .tup l ∨ ∃ a, x = .ref a ∧ rdL K M a l
theorem take_succ' {α : Type} {l : List α} {i : Nat} {x : α} (h : l[i]? = some x) : l.take (i + 1) = l.take i ++ [x] := by
  rw [List.take_add_one, h]; rfl
theorem int_at {ns : List Int} {i : Nat} {p : PV} (h : (ns.map PV.int)[i]? = some p) : ∃ z, ns[i]? = some z ∧ p = .int z := by
  rw [List.getElem?_map] at h
  cases e : ns[i]? with
  | none => rw [e] at h; cases h
  | some z => rw [e] at h; exact ⟨z, rfl, (Option.some.inj h).symm⟩
theorem sz_of {n m : Nat} (h : n ≤ m) (hm : m ≤ 1000000) : n < sizeLine := by rw [sizeLine_eq]; omega
theorem lt_of_get {α : Type} {l : List α} {i : Nat} {x : α} (h : l[i]? = some x) : i < l.length := (List.getElem?_eq_some_iff.mp h).1

theorem mod_half {x y : Nat} (h0 : 0 < y) (h : y ≤ x) : 2 * (x % y) ≤ x := by
  have h1 := Nat.div_add_mod x y
  have h2 := Nat.mod_lt x h0
  have h3 : 1 ≤ x / y := (Nat.one_le_div_iff h0).mpr h
  have h4 : y * 1 ≤ y * (x / y) := Nat.mul_le_mul_left _ h3
  omega
theorem gcd_step {x y i b : Nat} (h0 : 0 < y) (h1 : y * 2 ^ (i / 2) ≤ b) (h2 : 0 < i → y < x ∧ x * 2 ^ ((i - 1) / 2) ≤ b) : x % y * 2 ^ ((i + 1) / 2) ≤ b := by
  cases i with
  | zero =>
    have := Nat.mod_lt x h0
    simp at h1 ⊢
    omega
  | succ i =>
    obtain ⟨h3, h4⟩ := h2 (Nat.succ_pos _)
    have e : (i + 1 + 1) / 2 = i / 2 + 1 := by omega
    rw [e, Nat.pow_succ, Nat.mul_comm _ 2, ← Nat.mul_assoc, Nat.mul_comm _ 2]
    exact Nat.le_trans (Nat.mul_le_mul_right _ (mod_half h0 (Nat.le_of_lt h3))) h4
def sp__law_gcd (K : Kf) : PSpec := fun vs M Q _ => ∃ (a b : Nat), vs = [.int a, .int b] ∧ b < 2 ^ 200 ∧ Q (.int (Nat.gcd a b : Nat)) M
theorem sp__law_gcd_len {K : Kf} {vs : List PV} {M : PHp} {Q : PVK} {E : PXK} (h : sp__law_gcd K vs M Q E) : vs.length = 2 := by
  obtain ⟨_, _, rfl, _⟩ := h; rfl

theorem ok__law_gcd {P : Program} {w : World} {K : Kf} {mg : Str → Option Value} {base : Heap} (h0 : Here K mg "_law_gcd" s__law_gcd ["a", "b"]) (T : Blt mg) (Su : Sure P base)  : Callee P w K mg base 34 "_law_gcd" ["a", "b"] (sp__law_gcd K) := by
  refine ok_of h0 sc__law_gcd (fun vs M Q E h => sp__law_gcd_len h) (fun f cdv A outer s H E hr => ⟨_, (psscons (psfor PassesOwn.never rfl (pirng1 (by rfl) T.b_range (pacons pinT panil)) (pgname (i := 2) sc__law_gcd.nd) (psscons (psif (ptcmp (opEqK (K := K) (by exact hr.units)) (pv 1) pinT (nomark _)) (pssone (psret (pv 0))) pssnil)
      (pssone (pspar 0 1 rfl sc__law_gcd.nd (pacons (pv 1) (pacons (pop opMod (pcallTy cInt (by rfl) T.b_int (by decide +kernel) (pacons (pv 0) panil)) (pv 1)) panil)) rfl rfl (by decide) (fun _ h => ps_par (by rfl) sc__law_gcd.nd rfl rfl (by decide) rfl rfl h (by rfl))))))
      (pssone (psret (pv 0)))), fun vs M Q Ep h => ?_⟩)
  obtain ⟨a, b, rfl, hb, k⟩ := h
  walk_at "go"
  refine ⟨by decide, ?_⟩
  refine ⟨fun i σ M' => ∃ x y : Nat, σ = [some (.int x), some (.int y), none] ∧ M' = M ∧ Nat.gcd x y = Nat.gcd a b ∧ y * 2 ^ (i / 2) ≤ b ∧ (0 < i → y < x ∧ x * 2 ^ ((i - 1) / 2) ≤ b), ⟨_, _, .refl _, .refl _, a, b, rfl, rfl, rfl, by simp, fun z => absurd z (by decide)⟩, ?_, ?_, ?_⟩
  · intros; trivial
  · rintro i p σ M' hp ⟨x, y, rfl, rfl, hg, h1, h2⟩
    obtain ⟨hi, rfl⟩ := rng_get hp
    walk_at "on"
    refine br_dec (fun h => ?_) (fun h => ?_)
    · walk_at "on"
      have e : y = 0 := by omega
      subst e
      rw [Nat.gcd_zero_right] at hg
      refine ⟨_, .refl _, ?_⟩
      rw [hg]; exact k
    · walk_at "on"
      have e : (x : Int).fmod (y : Int) = ((x % y : Nat) : Int) := by
        rw [Int.fmod_eq_emod_of_nonneg _ (by omega)]; rfl
      rw [e]
      have y0 : 0 < y := by omega
      refine ⟨_, _, ?_, .refl _, y, x % y, rfl, rfl, ?_, gcd_step y0 h1 h2, fun _ => ⟨Nat.mod_lt _ y0, h1⟩⟩
      · walk_at "subs"
      · rw [← hg, Nat.gcd_comm y, ← Nat.gcd_rec, Nat.gcd_comm]
  · rintro σ M' ⟨x, y, rfl, rfl, hg, h1, h2⟩
    walk_at "on"
    have e : y = 0 := by
      rw [rng_len] at h1
      rcases Nat.eq_zero_or_pos y with h | h
      · exact h
      · have h3 : 1 * 2 ^ 200 ≤ y * 2 ^ (Int.toNat 400 / 2) := Nat.mul_le_mul h (Nat.le_refl _)
        omega
    subst e
    rw [Nat.gcd_zero_right] at hg
    refine ⟨_, .refl _, ?_⟩
    rw [hg]; exact k

/-- numbers that are not negative, and not great -/
def Small (ws : List Int) : Prop := ws.length ≤ 1000 ∧ ∀ w ∈ ws, 0 ≤ w ∧ w.natAbs < 2 ^ 200
def sp__law_reduced (K : Kf) : PSpec := fun vs M Q _ => ∃ (x : PV) (ws : List Int), vs = [x] ∧ SeqV K M x (ws.map PV.int) ∧ Small ws ∧ ∀ rs, IsRed ws rs → Q (.tup (rs.map PV.int)) M
theorem sp__law_reduced_len {K : Kf} {vs : List PV} {M : PHp} {Q : PVK} {E : PXK} (h : sp__law_reduced K vs M Q E) : vs.length = 1 := by
  obtain ⟨_, _, rfl, _⟩ := h; rfl
theorem gl_le {ws : List Int} {w : Int} (h : w ∈ ws) (h0 : w ≠ 0) : gl ws ≤ w.natAbs := by
  have := Int.natAbs_dvd_natAbs.mpr (gl_dvd w h)
  rw [Int.natAbs_natCast] at this
  exact Nat.le_of_dvd (by omega) this
theorem gl_small {ws : List Int} (h : ∀ w ∈ ws, 0 ≤ w ∧ w.natAbs < 2 ^ 200) : gl ws < 2 ^ 200 := by
  by_cases hz : gl ws = 0
  · omega
  · have : ∃ w ∈ ws, w ≠ 0 := by
      apply Classical.byContradiction
      intro hn
      apply hz
      have : ∀ w ∈ ws, w = 0 := fun w hw => Classical.byContradiction fun h => hn ⟨w, hw, h⟩
      clear hn hz h
      induction ws with
      | nil => rfl
      | cons x r ih =>
        rw [gl_cons, ih fun w hw => this w (List.mem_cons_of_mem _ hw), this x List.mem_cons_self]; rfl
    obtain ⟨w, hw, h0⟩ := this
    exact Nat.lt_of_le_of_lt (gl_le hw h0) (h w hw).2

theorem ok__law_reduced {P : Program} {w : World} {K : Kf} {mg : Str → Option Value} {base : Heap} (h0 : Here K mg "_law_reduced" s__law_reduced ["weights"]) (T : Blt mg) (Su : Sure P base) (C__law_gcd : Callee P w K mg base 34 "_law_gcd" ["a", "b"] (sp__law_gcd K)) : Callee P w K mg base 35 "_law_reduced" ["weights"] (sp__law_reduced K) := by
  refine ok_of h0 sc__law_reduced (fun vs M Q E h => sp__law_reduced_len h) (fun f cdv A outer s H E hr => ⟨_, (psscons (psset 1 sc__law_reduced.nd pinT)
      (psscut (psfor PassesOwn.never rfl (piseqK (K := K) (pv 0)) (pgname (i := 2) sc__law_reduced.nd) (pssone (psset 1 sc__law_reduced.nd (pcall C__law_gcd (by exact hr.mono (by first | decide | omega)) (pacons (pv 2) (pacons (pv 1) panil))))))
      (psscons (psif (ptcmp (opEqK (K := K) (by exact hr.units)) (pv 1) pinT (nomark _)) (pssone (psret (pcallTy (cTupleK (K := K)) (by rfl) T.b_tuple (by decide +kernel) (pacons (pv 0) panil)))) pssnil)
      (pssone (psret (pcallTy (cTupleK (K := K)) (by rfl) T.b_tuple (by decide +kernel) (pacons (plc1 2 rfl sc__law_reduced.nd (piseqK (K := K) (pv 0)) (blkOk_by (own := [("weight", 2)]) (N := ["weights", "common", "weight"]) (sc := defScope s__law_reduced) (by decide +kernel)) (by decide) (fun _ _ _ _ _ => pg_name (i := 2) sc__law_reduced.nd rfl (Or.inl rfl)) (fun _ _ _ _ _ => ptsnil) (fun _ _ _ _ _ => (pop (opFdiv Su (by exact hr.mono (by first | decide | omega))) (pv 2) (pv 1)))) panil))))))), fun vs M Q Ep h => ?_⟩)
  obtain ⟨x, ws, rfl, hx, ⟨hl, hsm⟩, k⟩ := h
  rcases hx with hx | ⟨a, hx, hr1⟩
  all_goals
    walk_at "go"
    refine ⟨fun σ M1 => σ = [some x, some (.int (gl ws : Nat)), none] ∧ M1 = M, ?_, ?_⟩
    · obtain ⟨y, hy⟩ : ∃ y, y = x := ⟨_, rfl⟩
      subst hx
      walk_at "on"
      refine ⟨fun i σ M1 => σ = [some y, some (.int (gl (ws.take i) : Nat)), none] ∧ M1 = M, ⟨_, _, .refl _, .refl _, by subst hy; rfl, rfl⟩, ?_, ?_, ?_⟩
      · rintro i σ M1 ⟨rfl, rfl⟩
        first | trivial | assumption
      · rintro i p σ M1 hp ⟨rfl, rfl⟩
        subst hy
        obtain ⟨z, hz, rfl⟩ := int_at hp
        have hmem := List.mem_of_getElem? hz
        obtain ⟨z0, zb⟩ := hsm z hmem
        obtain ⟨n, rfl⟩ : ∃ n : Nat, z = (n : Int) := ⟨z.toNat, by omega⟩
        walk_at "on"
        refine ⟨n, gl (ws.take i), rfl, gl_small fun w hw => hsm w (List.mem_of_mem_take hw), ?_⟩
        walk_at "on"
        refine ⟨_, _, ?_, .refl _, rfl, rfl⟩
        rw [take_succ' hz, gl_snoc, Int.natAbs_natCast, Nat.gcd_comm]
        walk_at "subs"
      · rintro σ M1 ⟨rfl, rfl⟩
        subst hy
        refine ⟨_, _, .refl _, .refl _, ?_, rfl⟩
        rw [List.length_map, List.take_length]
    · rintro σ M1 ⟨rfl, rfl⟩
      subst hx
      walk_at "on"
      refine br_dec (fun h0 => ?_) (fun h0 => ?_)
      · walk_at "on"
        exact ⟨_, .refl _, k ws (.zero (gl_zero (by omega)) rfl)⟩
      · walk_at "on"
        intro Dl hD
        refine ⟨fun i acc M' => M' = updM M1 Dl (.lst acc) ∧ acc = ((ws.take i).map fun w => PV.int (w.fdiv (gl ws : Nat))), ⟨_, .refl _, rfl, rfl⟩, ?_, ?_, ?_⟩
        · rintro i acc M' ⟨rfl, rfl⟩
          first | trivial | exact rdL.sub (by assumption) (.new hD)
        · rintro i p acc M' hp ⟨rfl, rfl⟩
          obtain ⟨z, hz, rfl⟩ := int_at hp
          have hi := lt_of_get hz
          walk_at "on"
          refine ⟨updM_same, sz_of (m := 1000) (by rw [List.length_map, List.length_take]; omega) (by decide), _, .refl _, updM_updM, ?_⟩
          rw [take_succ' hz, List.map_append]; rfl
        · rintro acc M' ⟨rfl, rfl⟩
          walk_at "on"
          refine ⟨M1, .new hD, ?_⟩
          rw [List.length_map, List.take_length]
          have := k _ (isRed_of (ws := ws) (by omega))
          rw [List.map_map] at this
          exact this

def lowC : List Nat := (List.range 26).map (97 + ·)
def signC : List Nat := lowC ++ (List.range 10).map (48 + ·)
/-- a name as the law draws one -/
structure Nm (x : Str) : Prop where
  ex : ∃ c r, x.cps.toList = c :: r ∧ c ∈ lowC ∧ (∀ d ∈ r, d ∈ signC) ∧ r.length ≤ 5
theorem rdL.keep {K : Kf} {M M' : PHp} {u s : Addr} {l : List PV} (h : rdL K M u l) (n : u ≠ s) (k : Keep s M M') : rdL K M' u l := by
  rcases h with h | h | h
  · exact .inl (k _ _ n h)
  · exact .inr (.inl (k _ _ n h))
  · exact .inr (.inr h)
theorem at_mem {α : Type} {l : List α} {i : Int} (h0 : 0 ≤ i) (h1 : i < (l.length : Int)) : ∃ c, c ∈ l ∧ l[i.toNat]? = some c ∧ atI l i = some c := by
  obtain ⟨j, rfl⟩ : ∃ j : Nat, i = (j : Int) := ⟨i.toNat, by omega⟩
  have h : j < l.length := by omega
  exact ⟨l[j], List.getElem_mem h, List.getElem?_eq_getElem h, atI_nat (List.getElem?_eq_getElem h)⟩
theorem let_cps : ("abcdefghijklmnopqrstuvwxyz" : Str).cps.toList = lowC := by decide +kernel
theorem sig_cps : (("abcdefghijklmnopqrstuvwxyz" : Str) ++ ("0123456789" : Str)).cps.toList = signC := by decide +kernel
theorem cps_app (x y : Str) : (x ++ y).cps.toList = x.cps.toList ++ y.cps.toList := Array.toList_append
theorem str_len (x : Str) : x.length = x.cps.toList.length := rfl
theorem str_len_le {x : Str} {n : Nat} (h : x.cps.toList.length ≤ n) (hn : n ≤ 1000) : x.length ≤ sizeLine := by rw [str_len, sizeLine_eq]; omega
theorem app_len {x y : Str} {n m : Nat} (h : x.cps.toList.length ≤ n) (h2 : y.cps.toList.length ≤ m) (hn : n + m ≤ 1000) : x.length + y.length ≤ sizeLine := by rw [str_len, str_len, sizeLine_eq]; omega
/-- the name's end -/
def numS (k : Nat) : Str := Str.ofString (toString (k : Int))
theorem num_ok : ∀ k < 64, (numS k).cps.toList.length ≤ 2 ∧ ∀ d ∈ (numS k).cps.toList, d ∈ signC := by decide +kernel
theorem num_ne : ∀ i < 64, ∀ j < 64, numS i = numS j → i = j := by decide +kernel
theorem app_inj {x y z : Str} (h : x ++ y = x ++ z) : y = z := by
  have h2 := congrArg (fun s : Str => s.cps.toList) h
  simp only [cps_app] at h2
  have h3 := List.append_cancel_left h2
  cases y; cases z
  simp only [Str.mk.injEq]
  exact Array.toList_inj.mp h3
/-- the base, then base0, base1, .. -/
def cand (b : Str) (i : Nat) : Str := match i with | 0 => b | i + 1 => b ++ numS i
theorem cand_inj {b : Str} {i j : Nat} (hi : i ≤ 64) (hj : j ≤ 64) (h : cand b i = cand b j) : i = j := by
  have key : ∀ k, k < 64 → b ≠ b ++ numS k := fun k hk e => by
    have h2 := congrArg (fun s : Str => s.cps.toList.length) e
    simp only [cps_app, List.length_append] at h2
    have : ∀ k < 64, 0 < (numS k).cps.toList.length := by decide +kernel
    have := this k hk
    omega
  match i, j with
  | 0, 0 => rfl
  | 0, j + 1 => exact absurd h (key j (by omega))
  | i + 1, 0 => exact absurd h.symm (key i (by omega))
  | i + 1, j + 1 => rw [num_ne i (by omega) j (by omega) (app_inj h)]
theorem pigeon {α : Type} [BEq α] [LawfulBEq α] (f : Nat → α) : ∀ (n : Nat) (us : List α), (∀ i j, i < n → j < n → f i = f j → i = j) → (∀ i, i < n → f i ∈ us) → n ≤ us.length
  | 0, _, _, _ => Nat.zero_le _
  | n + 1, us, inj, h => by
    have hm := h n (Nat.lt_succ_self n)
    have := pigeon f n (us.erase (f n)) (fun i j hi hj e => inj i j (by omega) (by omega) e) fun i hi => by
      rw [List.mem_erase_of_ne]
      · exact h i (by omega)
      · intro e
        have := inj i n (by omega) (by omega) e
        omega
    rw [List.length_erase_of_mem hm] at this
    have := List.length_pos_of_mem hm
    omega
/-- one of the first names is not used -/
theorem cand_free {b : Str} {us : List Str} {n : Nat} (hn : us.length < n) (h64 : n ≤ 64) (h : ∀ i < n, cand b i ∈ us) : False := by
  have := pigeon (cand b) n us (fun i j hi hj e => cand_inj (by omega) (by omega) e) h
  omega
structure Nb (x : Str) : Prop where
  ex : ∃ c r, x.cps.toList = c :: r ∧ c ∈ lowC ∧ (∀ d ∈ r, d ∈ signC) ∧ r.length ≤ 3
theorem Nb.cand {b : Str} (h : Nb b) {i : Nat} (hi : i ≤ 64) : Nm (cand b i) := by
  obtain ⟨c, r, e, h1, h2, h3⟩ := h.ex
  cases i with
  | zero => exact ⟨c, r, e, h1, h2, by omega⟩
  | succ i =>
    obtain ⟨n1, n2⟩ := num_ok i (by omega)
    refine ⟨c, r ++ (numS i).cps.toList, ?_, h1, fun d hd => ?_, ?_⟩
    · show (b ++ numS i).cps.toList = _
      rw [cps_app, e]; rfl
    · rcases List.mem_append.mp hd with q | q
      · exact h2 d q
      · exact n2 d q
    · rw [List.length_append]; omega
def sp__law_name (K : Kf) : PSpec := fun vs M Q _ => ∃ (a s u : Addr) (ns : List Int) (us : List Str), vs = [.ref a, .ref s, .ref u] ∧ Env K M a s ns ∧ rdL K M u (us.map PV.str) ∧ u ≠ s ∧ us.length ≤ 62 ∧
  ∀ x M', Nm x → x ∉ us → Env K M' a s ns → Keep s M M' → Q (.str x) M'
theorem sp__law_name_len {K : Kf} {vs : List PV} {M : PHp} {Q : PVK} {E : PXK} (h : sp__law_name K vs M Q E) : vs.length = 3 := by
  obtain ⟨_, _, _, _, _, rfl, _⟩ := h; rfl
theorem names6 {r : Int} (h0 : 0 ≤ r) (h1 : r < 6) : ∃ x : Str, atI [PV.str "p0", PV.str "p1", PV.str "p2", PV.str "m0", PV.str "m1", PV.str "m2"] r = some (.str x) ∧ Nb x := by
  obtain h | h | h | h | h | h : r = 0 ∨ r = 1 ∨ r = 2 ∨ r = 3 ∨ r = 4 ∨ r = 5 := by omega
  all_goals
    subst h
    refine ⟨_, rfl, ⟨_, _, rfl, ?_, ?_, ?_⟩⟩ <;> decide +kernel

theorem ok__law_name {P : Program} {w : World} {K : Kf} {mg : Str → Option Value} {base : Heap} (h0 : Here K mg "_law_name" s__law_name ["script", "source", "used"]) (T : Blt mg) (Su : Sure P base) (C__law_draw : Callee P w K mg base 34 "_law_draw" ["script", "source", "limit"] (sp__law_draw K)) : Callee P w K mg base 35 "_law_name" ["script", "source", "used"] (sp__law_name K) := by
  refine ok_of h0 sc__law_name (fun vs M Q E h => sp__law_name_len h) (fun f cdv A outer s H E hr => ⟨_, (psscons (psset 3 sc__law_name.nd pstr)
      (psscons (psset 4 sc__law_name.nd (pop opAdd (pv 3) pstr))
      (psscons (psset 5 sc__law_name.nd (pixK (K := K) (pv 3) (pcall C__law_draw (by exact hr.mono (by first | decide | omega)) (pacons (pv 0) (pacons (pv 1) (pacons pinT panil))))))
      (psscut (psfor PassesOwn.never rfl (pirng1 (by rfl) T.b_range (pacons (pcall C__law_draw (by exact hr.mono (by first | decide | omega)) (pacons (pv 0) (pacons (pv 1) (pacons pinT panil)))) panil)) (pgname (i := 6) sc__law_name.nd) (pssone (psset 5 sc__law_name.nd (pop opAdd (pv 5) (pixK (K := K) (pv 4) (pcall C__law_draw (by exact hr.mono (by first | decide | omega)) (pacons (pv 0) (pacons (pv 1) (pacons pinT panil)))))))))
      (psscut (psif (ptcmp (opEqK (K := K) (by exact hr.units)) (pcall C__law_draw (by exact hr.mono (by first | decide | omega)) (pacons (pv 0) (pacons (pv 1) (pacons pinT panil)))) pinT (nomark _)) (pssone (psset 5 sc__law_name.nd (pixK (K := K) (plst (pacons pstr (pacons pstr (pacons pstr (pacons pstr (pacons pstr (pacons pstr panil))))))) (pcall C__law_draw (by exact hr.mono (by first | decide | omega)) (pacons (pv 0) (pacons (pv 1) (pacons pinT panil))))))) pssnil)
      (psscons (psset 7 sc__law_name.nd (pv 5))
      (psscons (psfor PassesOwn.never rfl (pirng1 (by rfl) T.b_range (pacons (pop opAdd (pcallB (cLenK (K := K)) (by rfl) T.b_len (by decide +kernel) (pacons (pv 2) panil)) pinT) panil)) (pgname (i := 6) sc__law_name.nd) (pssone (psif (ptcmp (opIn (K := K)) (pv 5) (pv 2) rfl) (pssone (psset 5 sc__law_name.nd (pop opAdd (pv 7) (pcallTy cStr (by rfl) T.b_str (by decide +kernel) (pacons (pv 6) panil))))) pssnil)))
      (pssone (psret (pv 5)))))))))), fun vs M Q Ep h => ?_⟩)
  obtain ⟨a, s, u, ns, us, rfl, e, hu, us_ne, hul, k⟩ := h
  walk_at "go"
  refine ⟨by rw [sizeLine_eq]; decide +kernel, ?_⟩
  walk_at "on"
  refine ⟨a, s, ns, 26, rfl, e, by decide, by decide, fun r M1 h0 h1 e1 k1 => ?_⟩
  walk_at "on"
  obtain ⟨c, hc1, hc2, hc3⟩ := at_mem (l := ("abcdefghijklmnopqrstuvwxyz" : Str).cps.toList) h0 (by rw [let_cps]; exact h1)
  rw [let_cps] at hc1
  refine ⟨by rw [sizeLine_eq]; decide +kernel, c, hc3, ?_⟩
  walk_at "on"
  refine ⟨fun σ M1 => ∃ x, σ = [some (.ref a), some (.ref s), some (.ref u), none, none, some (.str x), none, none] ∧ Env K M1 a s ns ∧ Keep s M M1 ∧ Nb x, ?_, ?_⟩
  · refine ⟨a, s, ns, 3, rfl, e1, by decide, by decide, fun r2 M2 h20 h21 e2 k2 => ?_⟩
    walk_at "on"
    refine ⟨by omega, ?_⟩
    refine ⟨fun i σ M' => ∃ x r, σ = [some (.ref a), some (.ref s), some (.ref u), none, some (.str (("abcdefghijklmnopqrstuvwxyz" : Str) ++ ("0123456789" : Str))), some (.str x), none, none] ∧ Env K M' a s ns ∧ Keep s M M' ∧ x.cps.toList = c :: r ∧ (∀ d ∈ r, d ∈ signC) ∧ r.length ≤ i, ⟨_, _, ?_, .refl _, (⟨#[c]⟩ : Str), [], rfl, e2, k1.trans k2, rfl, by simp, Nat.zero_le _⟩, ?_, ?_, ?_⟩
    · walk_at "subs"
    · intros; trivial
    · rintro i p σ M' hp ⟨x, r, rfl, e3, k3, hx, hr1, hr2⟩
      obtain ⟨hi, rfl⟩ := rng_get hp
      walk_at "on"
      refine ⟨a, s, ns, 36, rfl, e3, by decide, by decide, fun r3 M3 h30 h31 e4 k4 => ?_⟩
      walk_at "on"
      obtain ⟨d, hd1, hd2, hd3⟩ := at_mem (l := (("abcdefghijklmnopqrstuvwxyz" : Str) ++ ("0123456789" : Str)).cps.toList) h30 (by rw [sig_cps]; exact h31)
      rw [sig_cps] at hd1
      refine ⟨by rw [sizeLine_eq]; decide +kernel, d, hd3, ?_⟩
      walk_at "on"
      refine ⟨app_len (n := 10) (m := 1) (by rw [hx, List.length_cons]; omega) (Nat.le_refl _) (by decide), ?_⟩
      walk_at "on"
      refine ⟨_, _, ?_, .refl _, x ++ ⟨#[d]⟩, r ++ [d], rfl, e4, k3.trans k4, by rw [cps_app, hx]; rfl, ?_, by rw [List.length_append, List.length_singleton]; omega⟩
      · walk_at "subs"
      · intro z hz
        rcases List.mem_append.mp hz with q | q
        · exact hr1 z q
        · rw [List.mem_singleton.mp q]; exact hd1
    · rintro σ M' ⟨x, r, rfl, e3, k3, hx, hr1, hr2⟩
      rw [rng_len] at hr2
      refine ⟨_, _, ?_, .refl _, x, rfl, e3, k3, ⟨c, r, hx, hc1, hr1, by omega⟩⟩
      walk_at "subs"
  · rintro σ M1 ⟨x, rfl, e1, k1, nb⟩
    refine ⟨fun σ M1 => ∃ x, σ = [some (.ref a), some (.ref s), some (.ref u), none, none, some (.str x), none, none] ∧ Env K M1 a s ns ∧ Keep s M M1 ∧ Nb x, ?_, ?_⟩
    · walk_at "on"
      refine ⟨a, s, ns, 6, rfl, e1, by decide, by decide, fun r M2 h0 h1 e2 k2 => ?_⟩
      walk_at "on"
      refine br_dec (fun h => ?_) (fun h => ?_)
      · walk_at "on"
        intro q hq
        walk_at "on"
        refine ⟨a, s, ns, 6, rfl, e2.new hq, by decide, by decide, fun r3 M3 h30 h31 e3 k3 => ?_⟩
        have hq3 := k3 q _ (e2.src_ne hq) updM_same
        obtain ⟨y, hy, nby⟩ := names6 h30 h31
        walk_at "on"
        exact ⟨_, _, .refl _, .refl _, y, rfl, e3, (k1.trans k2).trans ((Keep.new hq).trans k3), nby⟩
      · walk_at "on"
        exact ⟨_, _, .refl _, .refl _, x, rfl, e2, k1.trans k2, nb⟩
    · rintro σ M2 ⟨x, rfl, e2, k2, nb⟩
      have hu2 := hu.keep us_ne k2
      walk_at "on"
      refine ⟨by rw [List.length_map]; omega, ?_⟩
      refine ⟨fun i σ M' => ∃ j, σ = [some (.ref a), some (.ref s), some (.ref u), none, none, some (.str (cand x j)), none, some (.str x)] ∧ M' = M2 ∧ j ≤ i ∧ (∀ l < j, cand x l ∈ us) ∧ (j = i ∨ cand x j ∉ us), ⟨_, _, .refl _, .refl _, 0, rfl, rfl, Nat.le_refl _, by simp, .inl rfl⟩, ?_, ?_, ?_⟩
      · intros; trivial
      · rintro i p σ M' hp ⟨j, rfl, rfl, h1, h2, h3⟩
        obtain ⟨hi, rfl⟩ := rng_get hp
        rw [List.length_map] at hi
        walk_at "on"
        refine br_dec (fun h => ?_) (fun h => ?_)
        · have e3 : j = i := by rcases h3 with h3 | h3; exact h3; exact absurd h h3
          subst e3
          walk_at "on"
          refine ⟨by simp; exact Nat.lt_of_le_of_lt (Nat.log2_le_self j) (by omega), ?_⟩
          walk_at "on"
          rw [show (0 : Int) + (j : Int) = (j : Int) by omega]
          have hj : j < 64 := by omega
          obtain ⟨c, r, ex, _, _, er⟩ := nb.ex
          refine ⟨app_len (n := 4) (m := 2) (by rw [ex, List.length_cons]; omega) (num_ok j hj).1 (by decide), ?_⟩
          walk_at "on"
          refine ⟨_, _, ?_, .refl _, j + 1, rfl, rfl, Nat.le_refl _, fun l hl => ?_, .inl rfl⟩
          · walk_at "subs"
          · by_cases q : l = j
            · subst q; exact h
            · exact h2 l (by omega)
        · walk_at "on"
          refine ⟨_, _, ?_, .refl _, j, rfl, rfl, by omega, h2, .inr h⟩
          walk_at "subs"
      · rintro σ M' ⟨j, rfl, rfl, h1, h2, h3⟩
        rw [rng_len, List.length_map] at h1 h3
        walk_at "on"
        refine ⟨_, .refl _, k _ _ (nb.cand (i := j) (by omega)) ?_ e2 k2⟩
        intro hin
        rcases h3 with h3 | h3
        · exact cand_free (b := x) (us := us) (n := us.length + 1) (by omega) (by omega) fun l hl => h2 l (by omega)
        · exact h3 hin

def sp_reduced (K : Kf) : PSpec := fun vs M Q _ => ∃ (x : PV) (ws : List Int), vs = [x] ∧ SeqV K M x (ws.map PV.int) ∧ ws.length ≤ 1000 ∧ ∀ rs, IsRed ws rs → Q (.tup (rs.map PV.int)) M
theorem sp_reduced_len {K : Kf} {vs : List PV} {M : PHp} {Q : PVK} {E : PXK} (h : sp_reduced K vs M Q E) : vs.length = 1 := by
  obtain ⟨_, _, rfl, _⟩ := h; rfl

theorem ok_reduced {P : Program} {w : World} {K : Kf} {mg : Str → Option Value} {base : Heap} (h0 : Here K mg "reduced" s_reduced ["weights"]) (T : Blt mg) (Su : Sure P base)  : Callee P w K mg base 34 "reduced" ["weights"] (sp_reduced K) := by
  refine ok_of h0 sc_reduced (fun vs M Q E h => sp_reduced_len h) (fun f cdv A outer s H E hr => ⟨_, (psscons (psset 1 sc_reduced.nd pinT)
      (psscut (psfor PassesOwn.never rfl (piseqK (K := K) (pv 0)) (pgname (i := 2) sc_reduced.nd) (pssone (psset 1 sc_reduced.nd (pcallF cGcd (by rfl) T.g_gcd (pacons (pv 1) (pacons (pv 2) panil))))))
      (psscons (psif (ptcmp (opEqK (K := K) (by exact hr.units)) (pv 1) pinT (nomark _)) (pssone (psret (pcallTy (cTupleK (K := K)) (by rfl) T.b_tuple (by decide +kernel) (pacons (pv 0) panil)))) pssnil)
      (pssone (psret (pcallTy (cTupleK (K := K)) (by rfl) T.b_tuple (by decide +kernel) (pacons (plc1 2 rfl sc_reduced.nd (piseqK (K := K) (pv 0)) (blkOk_by (own := [("weight", 2)]) (N := ["weights", "common", "weight"]) (sc := defScope s_reduced) (by decide +kernel)) (by decide) (fun _ _ _ _ _ => pg_name (i := 2) sc_reduced.nd rfl (Or.inl rfl)) (fun _ _ _ _ _ => ptsnil) (fun _ _ _ _ _ => (pop (opFdiv Su (by exact hr.mono (by first | decide | omega))) (pv 2) (pv 1)))) panil))))))), fun vs M Q Ep h => ?_⟩)
  obtain ⟨x, ws, rfl, hx, hl, k⟩ := h
  rcases hx with hx | ⟨a, hx, hr1⟩
  all_goals
    walk_at "go"
    refine ⟨fun σ M1 => σ = [some x, some (.int (gl ws : Nat)), none] ∧ M1 = M, ?_, ?_⟩
    · obtain ⟨y, hy⟩ : ∃ y, y = x := ⟨_, rfl⟩
      subst hx
      walk_at "on"
      refine ⟨fun i σ M1 => σ = [some y, some (.int (gl (ws.take i) : Nat)), none] ∧ M1 = M, ⟨_, _, .refl _, .refl _, by subst hy; rfl, rfl⟩, ?_, ?_, ?_⟩
      · rintro i σ M1 ⟨rfl, rfl⟩
        first | trivial | assumption
      · rintro i p σ M1 hp ⟨rfl, rfl⟩
        subst hy
        obtain ⟨z, hz, rfl⟩ := int_at hp
        walk_at "on"
        refine ⟨_, _, ?_, .refl _, rfl, rfl⟩
        rw [take_succ' hz, gl_snoc]
        walk_at "subs"
      · rintro σ M1 ⟨rfl, rfl⟩
        subst hy
        refine ⟨_, _, .refl _, .refl _, ?_, rfl⟩
        rw [List.length_map, List.take_length]
    · rintro σ M1 ⟨rfl, rfl⟩
      subst hx
      walk_at "on"
      refine br_dec (fun h0 => ?_) (fun h0 => ?_)
      · walk_at "on"
        exact ⟨_, .refl _, k ws (.zero (gl_zero (by omega)) rfl)⟩
      · walk_at "on"
        intro Dl hD
        refine ⟨fun i acc M' => M' = updM M1 Dl (.lst acc) ∧ acc = ((ws.take i).map fun w => PV.int (w.fdiv (gl ws : Nat))), ⟨_, .refl _, rfl, rfl⟩, ?_, ?_, ?_⟩
        · rintro i acc M' ⟨rfl, rfl⟩
          first | trivial | exact rdL.sub (by assumption) (.new hD)
        · rintro i p acc M' hp ⟨rfl, rfl⟩
          obtain ⟨z, hz, rfl⟩ := int_at hp
          have hi := lt_of_get hz
          walk_at "on"
          refine ⟨updM_same, sz_of (m := 1000) (by rw [List.length_map, List.length_take]; omega) (by decide), _, .refl _, updM_updM, ?_⟩
          rw [take_succ' hz, List.map_append]; rfl
        · rintro acc M' ⟨rfl, rfl⟩
          walk_at "on"
          refine ⟨M1, .new hD, ?_⟩
          rw [List.length_map, List.take_length]
          have := k _ (isRed_of (ws := ws) (by omega))
          rw [List.map_map] at this
          exact this

theorem Hd.addn {S : List Addr} {M0 M M' : PHp} {L : List (Addr × MO)} {p : Addr} {o : MO} (h : Hd S M0 M L) (k : Sub M M') (hp : M p = none) (hp' : M' p = some o) : Hd S M0 M' ((p, o) :: L) :=
  (h.new (o := o) hp).step fun b u hb => by
    by_cases e : b = p
    · subst e; rw [updM_same] at hb; cases hb; exact hp'
    · rw [updM_ne e] at hb; exact k _ _ hb
theorem mk_list {α β : Type} (l : List α) (d : α) (f : α → β) : mk l.length (fun i => f (l.getD i d)) = l.map f := by
  conv => rhs; rw [mk_of l d]
  rw [mk_map]
abbrev Cub := List (List (List Str))
abbrev enV (e : List Str) : PV := .tup (e.map PV.str)
abbrev rwV (r : List (List Str)) : PV := .tup (r.map enV)
abbrev cuV (C : Cub) : PV := .tup (C.map rwV)

/-! slices -/
structure Sh (C : Cub) (w n : Nat) : Prop where
  ne : C ≠ []
  rw : ∀ r ∈ C, r.length = w
  en : ∀ r ∈ C, ∀ e ∈ r, e.length = n
  w1 : 1 ≤ w
  n1 : 1 ≤ n
  lc : C.length ≤ 1000
  lw : w ≤ 1000
  ln : n ≤ 1000
abbrev e0 : Str := ⟨#[]⟩
def slP (C : Cub) (o c : Nat) : PV := if o = 1 then rwV (C.getD c []) else if o = 2 then .tup (C.map fun r => enV (r.getD c [])) else .tup (C.flatten.map fun e => PV.str (e.getD c e0))
def slN (C : Cub) (w n o : Nat) : Nat := if o = 1 then C.length else if o = 2 then w else n
def slL (C : Cub) (w n o : Nat) : List PV := (List.range (slN C w n o)).map (slP C o)
theorem range_getD {α : Type} (l : List α) (d : α) : (List.range l.length).map (fun i => l.getD i d) = l := (mk_of l d).symm
theorem slL_1 {C : Cub} {w n : Nat} : slL C w n 1 = C.map rwV := by
  unfold slL slN
  rw [if_pos rfl]
  conv => rhs; rw [← range_getD C []]
  rw [List.map_map]; rfl
theorem flat_len {C : Cub} {w n : Nat} (h : Sh C w n) : ∀ l : Cub, (∀ r ∈ l, r ∈ C) → l.flatten.length = l.length * w
  | [], _ => by simp
  | a :: l, hs => by
    rw [List.flatten_cons, List.length_append, flat_len h l fun r hr => hs r (List.mem_cons_of_mem _ hr), h.rw a (hs a List.mem_cons_self), List.length_cons, Nat.succ_mul]; omega
theorem rw_at {C : Cub} {i : Nat} {x : PV} (hx : (C.map rwV)[i]? = some x) : ∃ r, C[i]? = some r ∧ x = rwV r := by
  rw [List.getElem?_map] at hx
  cases e : C[i]? with
  | none => rw [e] at hx; cases hx
  | some z => rw [e] at hx; exact ⟨z, rfl, (Option.some.inj hx).symm⟩
theorem en_at {r : List (List Str)} {i : Nat} {x : PV} (hx : (r.map enV)[i]? = some x) : ∃ e, r[i]? = some e ∧ x = enV e := by
  rw [List.getElem?_map] at hx
  cases e : r[i]? with
  | none => rw [e] at hx; cases hx
  | some z => rw [e] at hx; exact ⟨z, rfl, (Option.some.inj hx).symm⟩
theorem getD_get {α : Type} {l : List α} {i : Nat} {x d : α} (h : l[i]? = some x) : l.getD i d = x := by
  rw [List.getD_eq_getElem?_getD, h]; rfl
def sp__slices_of (K : Kf) : PSpec := fun vs M Q _ => ∃ (C : Cub) (w n o : Nat), vs = [cuV C, .int (o : Int)] ∧ Sh C w n ∧ o ≤ 2 ∧ ∀ l M', M l = none → M' l = some (.lst (slL C w n o)) → Sub M M' → Q (.ref l) M'
theorem sp__slices_of_len {K : Kf} {vs : List PV} {M : PHp} {Q : PVK} {E : PXK} (h : sp__slices_of K vs M Q E) : vs.length = 2 := by
  obtain ⟨_, _, _, _, rfl, _⟩ := h; rfl

theorem ok__slices_of {P : Program} {w : World} {K : Kf} {mg : Str → Option Value} {base : Heap} (h0 : Here K mg "_slices_of" s__slices_of ["cells", "owner"]) (T : Blt mg) (Su : Sure P base)  : Callee P w K mg base 34 "_slices_of" ["cells", "owner"] (sp__slices_of K) := by
  refine ok_of h0 sc__slices_of (fun vs M Q E h => sp__slices_of_len h) (fun f cdv A outer s H E hr => ⟨_, (psscons (psif (ptcmp (opEqK (K := K) (by exact hr.units)) (pv 1) pinT (nomark _)) (pssone (psret (pcallTy (cListK (K := K)) (by rfl) T.b_list (by decide +kernel) (pacons (pv 0) panil)))) pssnil)
      (psscons (psif (ptcmp (opEqK (K := K) (by exact hr.units)) (pv 1) pinT (nomark _)) (pssone (psret (plcP  rfl sc__slices_of.nd (pirng1 (by rfl) T.b_range (pacons (pcallB (cLenK (K := K)) (by rfl) T.b_len (by decide +kernel) (pacons (pixK (K := K) (pv 0) pinT) panil)) panil)) (blkOk_by (own := [("index", 2)]) (N := ["cells", "owner", "index", "row", "entries"]) (sc := defScope s__slices_of) (by decide +kernel)) (tgName (by decide)) (fun _ _ _ _ _ => (pg_name (i := 2) sc__slices_of.nd rfl (by first | exact Or.inl rfl | exact Or.inr rfl))) (fun _ _ _ _ _ => (pcallTy (cTupleK (K := K)) (by rfl) T.b_tuple (by decide +kernel) (pacons (plcP  rfl sc__slices_of.nd (piseqK (K := K) (pv 0)) (blkOk_n1 (own := [("row", 3)]) (N := ["cells", "owner", "index", "row", "entries"]) (sc0 := defScope s__slices_of) rfl (by decide +kernel)) (tgName (by decide)) (fun _ _ _ _ _ => (pg_name (i := 3) sc__slices_of.nd rfl (by first | exact Or.inl rfl | exact Or.inr rfl))) (fun _ _ _ _ _ => (pixK (K := K) (pv 3) (pv 2)))) panil)))))) pssnil)
      (pssone (psret (plcP  rfl sc__slices_of.nd (pirng1 (by rfl) T.b_range (pacons (pcallB (cLenK (K := K)) (by rfl) T.b_len (by decide +kernel) (pacons (pixK (K := K) (pixK (K := K) (pv 0) pinT) pinT) panil)) panil)) (blkOk_by (own := [("index", 2)]) (N := ["cells", "owner", "index", "row", "entries"]) (sc := defScope s__slices_of) (by decide +kernel)) (tgName (by decide)) (fun _ _ _ _ _ => (pg_name (i := 2) sc__slices_of.nd rfl (by first | exact Or.inl rfl | exact Or.inr rfl))) (fun _ _ _ _ _ => (pcallTy (cTupleK (K := K)) (by rfl) T.b_tuple (by decide +kernel) (pacons (plc2 [4] rfl sc__slices_of.nd (piseqK (K := K) (pv 0)) (blkOk_n1 (own := [("row", 3), ("entries", 4)]) (N := ["cells", "owner", "index", "row", "entries"]) (sc0 := defScope s__slices_of) rfl (by decide +kernel)) (tgName (by decide)) (by decide) (tgName (by decide)) (fun _ _ _ _ _ => (pg_name (i := 3) sc__slices_of.nd rfl (by first | exact Or.inl rfl | exact Or.inr rfl))) (fun _ _ _ _ _ => ptsnil) (fun _ _ _ _ _ => (piseqK (K := K) (pv 3))) (fun _ _ _ _ _ => (pg_name (i := 4) sc__slices_of.nd rfl (by first | exact Or.inl rfl | exact Or.inr rfl))) (fun _ _ _ _ _ => ptsnil) (fun _ _ _ _ _ => (pixK (K := K) (pv 4) (pv 2)))) panil)))))))), fun vs M Q Ep h => ?_⟩)
  obtain ⟨C, w, n, o, rfl, sh, ho, k⟩ := h
  have h0 : Hd [] M M [] := .start
  have cl : (C.map rwV).length = C.length := List.length_map _
  have lc := sh.lc
  have lw := sh.lw
  have ln := sh.ln
  have w1 := sh.w1
  obtain ⟨r, hr⟩ : ∃ r, C[0]? = some r := ⟨_, List.getElem?_eq_getElem (List.length_pos_iff.mpr sh.ne)⟩
  have hrm := List.mem_of_getElem? hr
  have rl := sh.rw r hrm
  have hca : atI (C.map rwV) 0 = some (rwV r) := atI_nat (j := 0) (by rw [List.getElem?_map, hr]; rfl)
  have rl2 : (r.map enV).length = w := by rw [List.length_map, rl]
  walk_at "go"
  refine br_dec (fun h => ?_) (fun h => ?_)
  · have h : o = 1 := by omega
    subst h
    rw [slL_1] at k
    walk_at "on"
    intro p hp
    exact ⟨_, .refl _, k p _ hp updM_same (.new hp)⟩
  walk_at "on"
  refine br_dec (fun h2 => ?_) (fun h2 => ?_)
  · have h : o = 2 := by omega
    subst h
    walk_at "on"
    refine ⟨by rw [rl2]; omega, ?_⟩
    refine ⟨fun j => slP C 2 j, by rw [rng_len, rl2]; omega, fun _ _ => trivial, fun j x M2 Q2 hx sb k2 => ?_, fun D l hD hl => ?_⟩
    · obtain ⟨hj, rfl⟩ := rng_get hx
      have hj : j < w := by rw [rl2] at hj; exact hj
      rw [show (0 : Int) + (j : Int) = (j : Int) by omega]
      refine ⟨_, rfl, ?_⟩
      dsimp only at k2
      walk_at "on"
      refine ⟨fun i => enV ((C.getD i []).getD j []), by rw [cl]; omega, fun _ _ => trivial, fun i x M3 Q3 hx sb3 k3 => ?_, fun D2 l2 hD2 hl2 => ?_⟩
      · obtain ⟨q, hq, rfl⟩ := rw_at hx
        have ql := sh.rw q (List.mem_of_getElem? hq)
        have hqj : q[j]? = some (q.getD j []) := by rw [List.getD_eq_getElem?_getD, List.getElem?_eq_getElem (by omega : j < q.length)]; rfl
        have hat : atI (q.map enV) (j : Int) = some (enV (q.getD j [])) := atI_nat (by rw [List.getElem?_map, hqj]; rfl)
        refine ⟨_, rfl, ?_⟩
        dsimp only at k3
        rw [getD_get hq] at k3
        walk_at "on"
        exact k3 _ (.refl _)
      rw [cl, mk_list C [] (fun r => enV (r.getD j []))] at hl2
      subst hl2
      walk_at "on"
      have e : slP C 2 j = .tup (C.map fun r => enV (r.getD j [])) := by unfold slP; rw [if_neg (by decide), if_pos rfl]
      rw [e] at k2
      exact k2 _ (.new hD2)
    rw [rng_len, rl2, Int.toNat_natCast] at hl
    have e : l = slL C w n 2 := hl
    subst e
    exact ⟨_, .refl _, k D _ hD updM_same (.new hD)⟩
  have h : o = 0 := by omega
  subst h
  obtain ⟨e, he⟩ : ∃ e, r[0]? = some e := ⟨_, List.getElem?_eq_getElem (by omega)⟩
  have hem := List.mem_of_getElem? he
  have el := sh.en r hrm e hem
  have hea : atI (r.map enV) 0 = some (enV e) := atI_nat (j := 0) (by rw [List.getElem?_map, he]; rfl)
  have el2 : (e.map PV.str).length = n := by rw [List.length_map, el]
  walk_at "on"
  refine ⟨by rw [el2]; omega, ?_⟩
  refine ⟨fun c => slP C 0 c, by rw [rng_len, el2]; omega, fun _ _ => trivial, fun c x M2 Q2 hx sb k2 => ?_, fun D l hD hl => ?_⟩
  · obtain ⟨hc, rfl⟩ := rng_get hx
    have hc : c < n := by rw [el2] at hc; exact hc
    rw [show (0 : Int) + (c : Int) = (c : Int) by omega]
    refine ⟨_, rfl, ?_⟩
    dsimp only at k2
    walk_at "on"
    have h1 : Hd [] M2 M2 [] := .start
    refine ald h1 fun D2 hD2 h1 => ?_
    replace h1 := h1 (.lst [])
    refine ⟨fun i acc M' => acc = ((C.take i).flatten.map fun e => PV.str (e.getD c e0)) ∧ Hd [] M2 M' [(D2, .lst acc)], ⟨_, .refl _, rfl, h1⟩, fun _ _ _ _ => trivial, ?_, ?_⟩
    · clear h1
      rintro i x acc M3 hx ⟨rfl, h1⟩
      obtain ⟨q, hq, rfl⟩ := rw_at hx
      have hqm := List.mem_of_getElem? hq
      have ql := sh.rw q hqm
      have hi := lt_of_get hq
      refine ⟨_, rfl, ?_⟩
      walk_at "on"
      refine ⟨fun j acc M' => acc = ((C.take i).flatten ++ q.take j).map (fun e => PV.str (e.getD c e0)) ∧ Hd [] M2 M' [(D2, .lst acc)], ⟨_, .refl _, by rw [List.take_zero, List.append_nil], h1⟩, fun _ _ _ _ => trivial, ?_, ?_⟩
      · clear h1
        rintro j x acc M4 hx ⟨rfl, h1⟩
        obtain ⟨e1, he1, rfl⟩ := en_at hx
        have e1l := sh.en q hqm e1 (List.mem_of_getElem? he1)
        have hj := lt_of_get he1
        have hec : e1[c]? = some (e1.getD c e0) := by rw [List.getD_eq_getElem?_getD, List.getElem?_eq_getElem (by omega : c < e1.length)]; rfl
        have hat : atI (e1.map PV.str) (c : Int) = some (.str (e1.getD c e0)) := atI_nat (by rw [List.getElem?_map, hec]; rfl)
        refine ⟨_, rfl, ?_⟩
        walk_at "on"
        have fl : ((C.take i).flatten ++ q.take j).length ≤ 1000 * 1000 + 1000 := by
          rw [List.length_append, flat_len sh _ fun r hr => List.mem_of_mem_take hr, List.length_take, List.length_take]
          have : min i C.length * w ≤ 1000 * 1000 := Nat.mul_le_mul (by omega) lw
          omega
        refine ⟨h1.get 0 rfl, by rw [List.length_map, sizeLine_eq]; omega, _, .refl _, ?_, h1.up0⟩
        rw [take_succ' he1, ← List.append_assoc, List.map_append (l₂ := [e1])]; rfl
      · clear h1
        rintro acc M4 ⟨rfl, h1⟩
        refine ⟨_, .refl _, ?_, h1⟩
        rw [List.length_map, List.take_of_length_le (Nat.le_refl _), take_succ' hq, List.flatten_append]; simp
    · clear h1
      rintro acc M3 ⟨rfl, h1⟩
      rw [cl, List.take_of_length_le (Nat.le_refl _)] at h1
      have hdd := h1.get 0 rfl
      walk_at "on"
      have e : slP C 0 c = .tup (C.flatten.map fun e => PV.str (e.getD c e0)) := by unfold slP; rw [if_neg (by decide), if_neg (by decide)]
      rw [e] at k2
      exact k2 _ h1.sub
  rw [rng_len, el2, Int.toNat_natCast] at hl
  have e : l = slL C w n 0 := hl
  subst e
  exact ⟨_, .refl _, k D _ hD updM_same (.new hD)⟩

def sp__law_slices (K : Kf) : PSpec := fun vs M Q _ => ∃ (C : Cub) (w n o : Nat), vs = [cuV C, .int (o : Int)] ∧ Sh C w n ∧ o ≤ 2 ∧ ∀ l M', M l = none → M' l = some (.lst (slL C w n o)) → Sub M M' → Q (.ref l) M'
theorem sp__law_slices_len {K : Kf} {vs : List PV} {M : PHp} {Q : PVK} {E : PXK} (h : sp__law_slices K vs M Q E) : vs.length = 2 := by
  obtain ⟨_, _, _, _, rfl, _⟩ := h; rfl

theorem ok__law_slices {P : Program} {w : World} {K : Kf} {mg : Str → Option Value} {base : Heap} (h0 : Here K mg "_law_slices" s__law_slices ["cube", "owner"]) (T : Blt mg) (Su : Sure P base)  : Callee P w K mg base 34 "_law_slices" ["cube", "owner"] (sp__law_slices K) := by
  refine ok_of h0 sc__law_slices (fun vs M Q E h => sp__law_slices_len h) (fun f cdv A outer s H E hr => ⟨_, (psscons (psif (ptcmp (opEqK (K := K) (by exact hr.units)) (pv 1) pinT (nomark _)) (pssone (psret (pcallTy (cListK (K := K)) (by rfl) T.b_list (by decide +kernel) (pacons (pv 0) panil)))) pssnil)
      (psscons (psif (ptcmp (opEqK (K := K) (by exact hr.units)) (pv 1) pinT (nomark _)) (pssone (psret (plcP  rfl sc__law_slices.nd (pirng1 (by rfl) T.b_range (pacons (pcallB (cLenK (K := K)) (by rfl) T.b_len (by decide +kernel) (pacons (pixK (K := K) (pv 0) pinT) panil)) panil)) (blkOk_by (own := [("j", 7)]) (N := ["cube", "owner", "found", "c", "part", "layer", "entry", "j"]) (sc := defScope s__law_slices) (by decide +kernel)) (tgName (by decide)) (fun _ _ _ _ _ => (pg_name (i := 7) sc__law_slices.nd rfl (by first | exact Or.inl rfl | exact Or.inr rfl))) (fun _ _ _ _ _ => (pcallTy (cTupleK (K := K)) (by rfl) T.b_tuple (by decide +kernel) (pacons (plcP  rfl sc__law_slices.nd (piseqK (K := K) (pv 0)) (blkOk_n1 (own := [("layer", 5)]) (N := ["cube", "owner", "found", "c", "part", "layer", "entry", "j"]) (sc0 := defScope s__law_slices) rfl (by decide +kernel)) (tgName (by decide)) (fun _ _ _ _ _ => (pg_name (i := 5) sc__law_slices.nd rfl (by first | exact Or.inl rfl | exact Or.inr rfl))) (fun _ _ _ _ _ => (pixK (K := K) (pv 5) (pv 7)))) panil)))))) pssnil)
      (psscons (psset 2 sc__law_slices.nd (plst panil))
      (psscons (psfor PassesOwn.never rfl (pirng1 (by rfl) T.b_range (pacons (pcallB (cLenK (K := K)) (by rfl) T.b_len (by decide +kernel) (pacons (pixK (K := K) (pixK (K := K) (pv 0) pinT) pinT) panil)) panil)) (pgname (i := 3) sc__law_slices.nd) (psscons (psset 4 sc__law_slices.nd (plst panil))
      (psscons (psfor PassesOwn.never rfl (piseqK (K := K) (pv 0)) (pgname (i := 5) sc__law_slices.nd) (pssone (psfor PassesOwn.never rfl (piseqK (K := K) (pv 5)) (pgname (i := 6) sc__law_slices.nd) (pssone (psexpr (pbmK (K := K) PySem.F.plainAttrs_list PySem.F.slot_list_append PySem.F.type_list_append mAppend (pv 4) (pacons (pixK (K := K) (pv 6) (pv 3)) panil)))))))
      (pssone (psexpr (pbmK (K := K) PySem.F.plainAttrs_list PySem.F.slot_list_append PySem.F.type_list_append mAppend (pv 2) (pacons (pcallTy (cTupleK (K := K)) (by rfl) T.b_tuple (by decide +kernel) (pacons (pv 4) panil)) panil)))))))
      (pssone (psret (pv 2))))))), fun vs M Q Ep h => ?_⟩)
  obtain ⟨C, w, n, o, rfl, sh, ho, k⟩ := h
  have h0 : Hd [] M M [] := .start
  have cl : (C.map rwV).length = C.length := List.length_map _
  have lc := sh.lc
  have lw := sh.lw
  have ln := sh.ln
  have w1 := sh.w1
  obtain ⟨r, hr⟩ : ∃ r, C[0]? = some r := ⟨_, List.getElem?_eq_getElem (List.length_pos_iff.mpr sh.ne)⟩
  have hrm := List.mem_of_getElem? hr
  have rl := sh.rw r hrm
  have hca : atI (C.map rwV) 0 = some (rwV r) := atI_nat (j := 0) (by rw [List.getElem?_map, hr]; rfl)
  have rl2 : (r.map enV).length = w := by rw [List.length_map, rl]
  walk_at "go"
  refine br_dec (fun h => ?_) (fun h => ?_)
  · have h : o = 1 := by omega
    subst h
    rw [slL_1] at k
    walk_at "on"
    intro p hp
    exact ⟨_, .refl _, k p _ hp updM_same (.new hp)⟩
  walk_at "on"
  refine br_dec (fun h2 => ?_) (fun h2 => ?_)
  · have h : o = 2 := by omega
    subst h
    walk_at "on"
    refine ⟨by rw [rl2]; omega, ?_⟩
    refine ⟨fun j => slP C 2 j, by rw [rng_len, rl2]; omega, fun _ _ => trivial, fun j x M2 Q2 hx sb k2 => ?_, fun D l hD hl => ?_⟩
    · obtain ⟨hj, rfl⟩ := rng_get hx
      have hj : j < w := by rw [rl2] at hj; exact hj
      rw [show (0 : Int) + (j : Int) = (j : Int) by omega]
      refine ⟨_, rfl, ?_⟩
      dsimp only at k2
      walk_at "on"
      refine ⟨fun i => enV ((C.getD i []).getD j []), by rw [cl]; omega, fun _ _ => trivial, fun i x M3 Q3 hx sb3 k3 => ?_, fun D2 l2 hD2 hl2 => ?_⟩
      · obtain ⟨q, hq, rfl⟩ := rw_at hx
        have ql := sh.rw q (List.mem_of_getElem? hq)
        have hqj : q[j]? = some (q.getD j []) := by rw [List.getD_eq_getElem?_getD, List.getElem?_eq_getElem (by omega : j < q.length)]; rfl
        have hat : atI (q.map enV) (j : Int) = some (enV (q.getD j [])) := atI_nat (by rw [List.getElem?_map, hqj]; rfl)
        refine ⟨_, rfl, ?_⟩
        dsimp only at k3
        rw [getD_get hq] at k3
        walk_at "on"
        exact k3 _ (.refl _)
      rw [cl, mk_list C [] (fun r => enV (r.getD j []))] at hl2
      subst hl2
      walk_at "on"
      have e : slP C 2 j = .tup (C.map fun r => enV (r.getD j [])) := by unfold slP; rw [if_neg (by decide), if_pos rfl]
      rw [e] at k2
      exact k2 _ (.new hD2)
    rw [rng_len, rl2, Int.toNat_natCast] at hl
    have e : l = slL C w n 2 := hl
    subst e
    exact ⟨_, .refl _, k D _ hD updM_same (.new hD)⟩
  have h : o = 0 := by omega
  subst h
  obtain ⟨e, he⟩ : ∃ e, r[0]? = some e := ⟨_, List.getElem?_eq_getElem (by omega)⟩
  have hem := List.mem_of_getElem? he
  have el := sh.en r hrm e hem
  have hea : atI (r.map enV) 0 = some (enV e) := atI_nat (j := 0) (by rw [List.getElem?_map, he]; rfl)
  have el2 : (e.map PV.str).length = n := by rw [List.length_map, el]
  have p2 := sizeLine_eq
  walk_at "on"
  refine ald h0 fun D hD h0 => ?_
  replace h0 := h0 (.lst [])
  walk_at "on"
  refine ⟨by rw [el2]; omega, ?_⟩
  refine ⟨fun c σ M' => ∃ (w3 w4 w5 w6 : Option PV), σ = [some (cuV C), some (.int 0), some (.ref D), w3, w4, w5, w6, none] ∧ Hd [] M M' [(D, .lst ((slL C w n 0).take c))], ⟨_, _, by walk_at "subs", .refl _, _, _, _, _, rfl, h0⟩, fun _ _ _ _ => trivial, ?_, ?_⟩
  · clear h0
    rintro c x σ M1 hx ⟨w3, w4, w5, w6, rfl, h0⟩
    obtain ⟨hc, rfl⟩ := rng_get hx
    have hc : c < n := by rw [el2] at hc; exact hc
    rw [show (0 : Int) + (c : Int) = (c : Int) by omega]
    walk_at "on"
    refine ald h0 fun D2 hD2 h0 => ?_
    replace h0 := h0 (.lst [])
    walk_at "on"
    refine ⟨fun i σ M' => ∃ (w5 w6 : Option PV), σ = [some (cuV C), some (.int 0), some (.ref D), some (.int (c : Int)), some (.ref D2), w5, w6, none] ∧ Hd [] M M' [(D2, .lst ((C.take i).flatten.map fun e => PV.str (e.getD c e0))), (D, .lst ((slL C w n 0).take c))], ⟨_, _, by walk_at "subs", .refl _, _, _, rfl, h0⟩, fun _ _ _ _ => trivial, ?_, ?_⟩
    · clear h0
      rintro i x σ M3 hx ⟨w5, w6, rfl, h0⟩
      obtain ⟨q, hq, rfl⟩ := rw_at hx
      have hqm := List.mem_of_getElem? hq
      have ql := sh.rw q hqm
      have hi := lt_of_get hq
      walk_at "on"
      refine ⟨fun j σ M' => ∃ (w6 : Option PV), σ = [some (cuV C), some (.int 0), some (.ref D), some (.int (c : Int)), some (.ref D2), some (rwV q), w6, none] ∧ Hd [] M M' [(D2, .lst (((C.take i).flatten ++ q.take j).map fun e => PV.str (e.getD c e0))), (D, .lst ((slL C w n 0).take c))], ⟨_, _, by walk_at "subs", .refl _, _, rfl, by rw [List.take_zero, List.append_nil]; exact h0⟩, fun _ _ _ _ => trivial, ?_, ?_⟩
      · clear h0
        rintro j x σ M4 hx ⟨w6, rfl, h0⟩
        obtain ⟨e1, he1, rfl⟩ := en_at hx
        have e1l := sh.en q hqm e1 (List.mem_of_getElem? he1)
        have hj := lt_of_get he1
        have hec : e1[c]? = some (e1.getD c e0) := by rw [List.getD_eq_getElem?_getD, List.getElem?_eq_getElem (by omega : c < e1.length)]; rfl
        have hat : atI (e1.map PV.str) (c : Int) = some (.str (e1.getD c e0)) := atI_nat (by rw [List.getElem?_map, hec]; rfl)
        have fl : ((C.take i).flatten ++ q.take j).length ≤ 1000 * 1000 + 1000 := by
          rw [List.length_append, flat_len sh _ fun r hr => List.mem_of_mem_take hr, List.length_take, List.length_take]
          have : min i C.length * w ≤ 1000 * 1000 := Nat.mul_le_mul (by omega) lw
          omega
        walk_at "on"
        refine ⟨_, h0.get 0 rfl, by rw [List.length_map]; omega, ?_⟩
        replace h0 := h0.up0 (o' := .lst (((C.take i).flatten ++ q.take (j + 1)).map fun e => PV.str (e.getD c e0)))
        rw [show (((C.take i).flatten ++ q.take j).map fun e => PV.str (e.getD c e0)) ++ [.str (e1.getD c e0)] = ((C.take i).flatten ++ q.take (j + 1)).map fun e => PV.str (e.getD c e0) by rw [take_succ' he1, ← List.append_assoc, List.map_append (l₂ := [e1])]; rfl]
        exact ⟨_, _, by walk_at "subs", .refl _, _, rfl, h0⟩
      · clear h0
        rintro σ M4 ⟨w6, rfl, h0⟩
        refine ⟨_, _, by walk_at "subs", .refl _, _, _, rfl, ?_⟩
        rw [List.length_map, List.take_of_length_le (Nat.le_refl _)] at h0
        rw [take_succ' hq, List.flatten_append]; simpa using h0
    · clear h0
      rintro σ M3 ⟨w5, w6, rfl, h0⟩
      rw [cl, List.take_of_length_le (Nat.le_refl _)] at h0
      have hdd := h0.get 0 rfl
      have sn : (slL C w n 0).length = n := by unfold slL slN; rw [List.length_map, List.length_range]; rfl
      have sc : (slL C w n 0)[c]? = some (.tup (C.flatten.map fun e => PV.str (e.getD c e0))) := by
        unfold slL slN
        rw [List.getElem?_map, if_neg (by decide), if_neg (by decide), List.getElem?_range hc, Option.map_some]
        unfold slP; rw [if_neg (by decide), if_neg (by decide)]
      walk_at "on"
      refine ⟨_, h0.get 1 rfl, by rw [List.length_take]; omega, ?_⟩
      replace h0 := h0.up1 (o' := .lst ((slL C w n 0).take (c + 1)))
      rw [← take_succ' sc]
      exact ⟨_, _, by walk_at "subs", .refl _, _, _, _, _, rfl, h0.less (by simp)⟩
  · clear h0
    rintro σ M1 ⟨w3, w4, w5, w6, rfl, h0⟩
    have sn : (slL C w n 0).length = n := by unfold slL slN; rw [List.length_map, List.length_range]; rfl
    rw [rng_len, el2, Int.toNat_natCast, List.take_of_length_le (Nat.le_of_eq sn)] at h0
    walk_at "on"
    exact ⟨_, .refl _, k D _ hD (h0.get 0 rfl) h0.sub⟩

/-- 0, 1, .., n - 1 -/
def iota (n : Nat) : List Int := (List.range n).map fun (i : Nat) => (i : Int)
theorem rng_iota (n : Nat) : rng 0 n = (iota n).map PV.int := by
  unfold rng iota
  rw [List.map_map]
  refine List.map_congr_left fun i _ => ?_
  show PV.int (0 + (i : Int)) = PV.int (i : Int)
  rw [Int.zero_add]
theorem iota_len (n : Nat) : (iota n).length = n := by unfold iota; simp
theorem iota_mem {n : Nat} {z : Int} : z ∈ iota n ↔ 0 ≤ z ∧ z < (n : Int) := by
  unfold iota
  rw [List.mem_map]
  constructor
  · rintro ⟨i, hi, rfl⟩
    have := List.mem_range.mp hi
    omega
  · rintro ⟨h1, h2⟩
    exact ⟨z.toNat, List.mem_range.mpr (by omega), by omega⟩
theorem iota_nodup (n : Nat) : (iota n).Nodup := by
  unfold iota
  rw [List.nodup_iff_pairwise_ne, List.pairwise_map]
  exact List.nodup_range.imp fun h e => h (by omega)
/-- an arrangement of n things -/
def IsOrdN (n : Nat) (o : List Int) : Prop := o.Perm (iota n)
theorem IsOrdN.len {n : Nat} {o : List Int} (h : IsOrdN n o) : o.length = n := h.length_eq.trans (iota_len n)
theorem IsOrdN.mem {n : Nat} {o : List Int} (h : IsOrdN n o) {z : Int} : z ∈ o ↔ 0 ≤ z ∧ z < (n : Int) := h.mem_iff.trans iota_mem
def sp__law_order (K : Kf) : PSpec := fun vs M Q _ => ∃ (a s : Addr) (ns : List Int) (n : Nat), vs = [.ref a, .ref s, .int n] ∧ Env K M a s ns ∧ n ≤ 1000 ∧
  ∀ o M', IsOrdN n o → Env K M' a s ns → Keep s M M' → Q (.tup (o.map PV.int)) M'
theorem sp__law_order_len {K : Kf} {vs : List PV} {M : PHp} {Q : PVK} {E : PXK} (h : sp__law_order K vs M Q E) : vs.length = 3 := by
  obtain ⟨_, _, _, _, rfl, _⟩ := h; rfl
theorem map_erase {l : List Int} (i : Nat) : (l.map PV.int).eraseIdx i = (l.eraseIdx i).map PV.int := by
  induction l generalizing i with
  | nil => rfl
  | cons x l ih =>
    cases i with
    | zero => rfl
    | succ i => show PV.int x :: _ = PV.int x :: _; rw [ih]
theorem perm_pop {l : List Int} {i : Nat} {z : Int} (h : l[i]? = some z) (o : List Int) : ((o ++ [z]) ++ l.eraseIdx i).Perm (o ++ l) := by
  have hi := lt_of_get h
  have : (z :: l.eraseIdx i).Perm l := by
    rw [List.eraseIdx_eq_take_drop_succ]
    have e : l = l.take i ++ z :: l.drop (i + 1) := by
      have h2 := List.getElem?_eq_some_iff.mp h
      obtain ⟨_, h3⟩ := h2
      rw [← h3]
      simp
    conv => rhs; rw [e]
    exact (List.perm_middle).symm
  rw [List.append_assoc]
  exact List.Perm.append_left o this

theorem ok__law_order {P : Program} {w : World} {K : Kf} {mg : Str → Option Value} {base : Heap} (h0 : Here K mg "_law_order" s__law_order ["script", "source", "count"]) (T : Blt mg) (Su : Sure P base) (C__law_draw : Callee P w K mg base 34 "_law_draw" ["script", "source", "limit"] (sp__law_draw K)) : Callee P w K mg base 35 "_law_order" ["script", "source", "count"] (sp__law_order K) := by
  refine ok_of h0 sc__law_order (fun vs M Q E h => sp__law_order_len h) (fun f cdv A outer s H E hr => ⟨_, (psscons (psset 3 sc__law_order.nd (ptup panil))
      (psscons (psset 4 sc__law_order.nd (plistRg rfl (by rfl) T.b_list (prg1 (by rfl) T.b_range (pv 2))))
      (psscons (psfor PassesOwn.never rfl (pirng1 (by rfl) T.b_range (pacons (pv 2) panil)) (pgname (i := 5) sc__law_order.nd) (pssone (psset 3 sc__law_order.nd (pop opAdd (pv 3) (ptup (pacons (pbmK (K := K) PySem.F.plainAttrs_list PySem.F.slot_list_pop PySem.F.type_list_pop mPopAt (pv 4) (pacons (pcall C__law_draw (by exact hr.mono (by first | decide | omega)) (pacons (pv 0) (pacons (pv 1) (pacons (pcallB (cLenK (K := K)) (by rfl) T.b_len (by decide +kernel) (pacons (pv 4) panil)) panil)))) panil)) panil))))))
      (pssone (psret (pv 3)))))), fun vs M Q Ep h => ?_⟩)
  obtain ⟨a, s, ns, n, rfl, e, hn, k⟩ := h
  walk_at "go"
  refine ⟨.of_le (by decide) (by omega) (by decide) (by omega), ?_⟩
  intro p hp
  have ps := e.src_ne hp
  walk_at "on"
  refine ⟨by omega, ?_⟩
  refine ⟨fun i σ M1 => ∃ o l : List Int, σ = [some (.ref a), some (.ref s), some (.int n), some (.tup (o.map PV.int)), some (.ref p), none] ∧ Env K M1 a s ns ∧ Keep s M M1 ∧ M1 p = some (.lst (l.map PV.int)) ∧ (o ++ l).Perm (iota n) ∧ o.length = i, ⟨_, _, .refl _, .refl _, [], iota n, rfl, e.new hp, .new hp, by rw [← rng_iota]; exact updM_same, .refl _, rfl⟩, ?_, ?_, ?_⟩
  · intros; trivial
  · rintro i x σ M1 hx ⟨o, l, rfl, e1, k1, h1, h2, h3⟩
    obtain ⟨hi, rfl⟩ := rng_get hx
    have hl := h2.length_eq
    rw [List.length_append, iota_len] at hl
    walk_at "on"
    refine ⟨a, s, ns, ((l.map PV.int).length : Nat), rfl, e1, ?_, ?_, fun r M2 h0 h1' e2 k2 => ?_⟩
    · rw [List.length_map]; omega
    · rw [List.length_map]; exact bits64 (by omega)
    have hp2 := k2 p _ ps h1
    rw [List.length_map] at h1'
    obtain ⟨z, hz1, hz2, _⟩ := at_mem h0 h1'
    walk_at "on"
    refine ⟨_, .int z, _, hp2, h0, by rw [List.length_map]; exact h1', Nat.le_of_lt (sz_of (m := 1000) (by rw [List.length_map]; omega) (by decide)), rfl, by rw [List.getElem?_map, hz2]; rfl, ?_⟩
    walk_at "on"
    refine ⟨Nat.le_of_lt (sz_of (m := 1001) (by rw [List.length_map, List.length_singleton]; omega) (by decide)), ?_⟩
    walk_at "on"
    refine ⟨_, _, ?_, .refl _, o ++ [z], l.eraseIdx r.toNat, rfl, e.own e2 hp ps (k1.trans k2), (k1.trans k2).own hp, ?_, (perm_pop hz2 o).trans h2, by rw [List.length_append, h3]; rfl⟩
    · rw [List.map_append]
      walk_at "subs"
    · rw [← map_erase]; exact updM_same
  · rintro σ M1 ⟨o, l, rfl, e1, k1, h1, h2, h3⟩
    rw [rng_len] at h3
    have hl := h2.length_eq
    rw [List.length_append, iota_len] at hl
    have : l = [] := List.length_eq_zero_iff.mp (by omega)
    subst this
    rw [List.append_nil] at h2
    walk_at "on"
    exact ⟨_, .refl _, k _ _ h2 e1 k1⟩

theorem ixN_in {n : Nat} {r : Int} (h0 : 0 ≤ r) (h1 : r < (n : Int)) : ixN n r = some r.toNat := by
  unfold ixN
  rw [if_pos h0, if_pos h1]
/-! tables and orders by functions -/
abbrev ordv (n : Nat) (p : Nat → Nat) : PV := .tup (mk n fun k => .int (p k : Nat))
abbrev tabW (n0 : Nat) (W : Nat → Int) : PV := .tup (mk n0 fun c => .int (W c))
abbrev tabF (n0 n1 n2 : Nat) (C : Nat → Nat → Nat → Str) : PV := .tup (mk n1 fun i => .tup (mk n2 fun j => .tup (mk n0 fun c => .str (C i j c))))
abbrev tab (n0 n1 n2 : Nat) (W : Nat → Int) (C : Nat → Nat → Nat → Str) : PV := .tup [tabW n0 W, tabF n0 n1 n2 C]
theorem tab_congr {n0 n1 n2 : Nat} {W W' : Nat → Int} {C C' : Nat → Nat → Nat → Str} (h1 : ∀ c, c < n0 → W c = W' c) (h2 : ∀ i j c, i < n1 → j < n2 → c < n0 → C i j c = C' i j c) : tab n0 n1 n2 W C = tab n0 n1 n2 W' C' := by
  have e1 : tabW n0 W = tabW n0 W' := congrArg PV.tup (mk_congr fun c hc => by rw [h1 c hc])
  have e2 : tabF n0 n1 n2 C = tabF n0 n1 n2 C' := congrArg PV.tup (mk_congr fun i hi => congrArg PV.tup (mk_congr fun j hj => congrArg PV.tup (mk_congr fun c hc => by rw [h2 i j c hi hj hc])))
  rw [show tab n0 n1 n2 W C = .tup [tabW n0 W, tabF n0 n1 n2 C] from rfl, e1, e2]
theorem ordv_congr {n : Nat} {p q : Nat → Nat} (h : ∀ k, k < n → p k = q k) : ordv n p = ordv n q := congrArg PV.tup (mk_congr fun k hk => by rw [h k hk])
theorem ordv_pure {n m : Nat} {p : Nat → Nat} (h : n ≤ 16777216) : PureD (m + 2) (ordv n p) := .tup (by rw [mk_len]; exact h) fun x hx => by
  obtain ⟨i, _, rfl⟩ := mk_mem.mp hx
  exact .int _
theorem tab_pure {n0 n1 n2 m : Nat} {W : Nat → Int} {C : Nat → Nat → Nat → Str} (h0 : n0 ≤ 16777216) (h1 : n1 ≤ 16777216) (h2 : n2 ≤ 16777216) : PureD (m + 5) (tab n0 n1 n2 W C) := by
  refine .tup (by show 2 ≤ 16777216; decide) fun x hx => ?_
  rcases List.mem_cons.mp hx with rfl | hx
  · refine .tup (by rw [mk_len]; exact h0) fun y hy => ?_
    obtain ⟨i, _, rfl⟩ := mk_mem.mp hy
    exact .int _
  rcases List.mem_cons.mp hx with rfl | hx
  · refine .tup (by rw [mk_len]; exact h1) fun y hy => ?_
    obtain ⟨i, _, rfl⟩ := mk_mem.mp hy
    refine .tup (by rw [mk_len]; exact h2) fun y hy => ?_
    obtain ⟨i, _, rfl⟩ := mk_mem.mp hy
    refine .tup (by rw [mk_len]; exact h0) fun y hy => ?_
    obtain ⟨i, _, rfl⟩ := mk_mem.mp hy
    exact .str _
  · cases hx
theorem at_mk {n i : Nat} {f : Nat → PV} (h : i < n) : atI (mk n f) (i : Int) = some (f i) := atI_nat (mk_at h)
/-- p and q undo each other -/
structure IV (n : Nat) (p q : Nat → Nat) : Prop where
  lt : ∀ k, k < n → p k < n
  lt' : ∀ k, k < n → q k < n
  qp : ∀ k, k < n → q (p k) = k
  pq : ∀ k, k < n → p (q k) = k
theorem IV.symm {n : Nat} {p q : Nat → Nat} (h : IV n p q) : IV n q p := ⟨h.lt', h.lt, h.pq, h.qp⟩
/-- an order as a function with its inverse -/
theorem IsOrdN.fn {n : Nat} {o : List Int} (h : IsOrdN n o) : ∃ p q, IV n p q ∧ o = mk n fun k => ((p k : Nat) : Int) := by
  have hl := h.len
  have hm : ∀ k, k < n → ∃ z : Nat, o[k]? = some (z : Int) ∧ z < n := fun k hk => by
    have e := List.getElem?_eq_getElem (l := o) (i := k) (by omega)
    have := (h.mem (z := o[k])).mp (List.getElem_mem _)
    exact ⟨o[k].toNat, by rw [e]; exact congrArg some (by omega), by omega⟩
  have nd : o.Nodup := h.nodup_iff.mpr (iota_nodup n)
  let p : Nat → Nat := fun k => (o.getD k 0).toNat
  have hp : ∀ k, k < n → o[k]? = some ((p k : Nat) : Int) ∧ p k < n := fun k hk => by
    obtain ⟨z, e, hz⟩ := hm k hk
    have : p k = z := by
      show (o.getD k 0).toNat = z
      rw [List.getD_eq_getElem?_getD, e]; rfl
    rw [this]; exact ⟨e, hz⟩
  let q : Nat → Nat := fun m => o.idxOf (m : Int)
  have hq : ∀ m, m < n → q m < n ∧ o[q m]? = some (m : Int) := fun m hm => by
    have hin : (m : Int) ∈ o := h.mem.mpr ⟨by omega, by omega⟩
    have hlt := List.idxOf_lt_length_of_mem hin
    refine ⟨by rw [← hl]; exact hlt, ?_⟩
    show o[o.idxOf (m : Int)]? = _
    rw [List.getElem?_eq_getElem hlt, List.getElem_idxOf]
  refine ⟨p, q, ⟨fun k hk => (hp k hk).2, fun k hk => (hq k hk).1, fun k hk => ?_, fun k hk => ?_⟩, ?_⟩
  · obtain ⟨e1, h1⟩ := hp k hk
    obtain ⟨h2, e2⟩ := hq (p k) h1
    exact (List.getElem?_inj (by omega) nd).mp (e2.trans e1.symm)
  · obtain ⟨h1, e1⟩ := hq k hk
    obtain ⟨e2, _⟩ := hp (q k) h1
    rw [e1] at e2
    have := Option.some.inj e2
    omega
  · rw [mk_get_iff]
    refine ⟨hl, fun i x hx => ?_⟩
    have hi : i < n := by rw [← hl]; exact lt_of_get hx
    rw [(hp i hi).1] at hx
    exact (Option.some.inj hx).symm
def sp_sizes_of (K : Kf) : PSpec := fun vs M Q _ => ∃ n0 n1 n2 W C, vs = [tab n0 n1 n2 W C] ∧ 0 < n1 ∧ Q (.tup [.int (n0 : Nat), .int (n1 : Nat), .int (n2 : Nat)]) M
theorem sp_sizes_of_len {K : Kf} {vs : List PV} {M : PHp} {Q : PVK} {E : PXK} (h : sp_sizes_of K vs M Q E) : vs.length = 1 := by
  obtain ⟨_, _, _, _, _, rfl, _⟩ := h; rfl

theorem ok_sizes_of {P : Program} {w : World} {K : Kf} {mg : Str → Option Value} {base : Heap} (h0 : Here K mg "sizes_of" s_sizes_of ["table"]) (T : Blt mg) (Su : Sure P base)  : Callee P w K mg base 34 "sizes_of" ["table"] (sp_sizes_of K) := by
  refine ok_of h0 sc_sizes_of (fun vs M Q E h => sp_sizes_of_len h) (fun f cdv A outer s H E hr => ⟨_, (psscons (psasg (pv 0) (pgtup rfl (pgscons (pgname (i := 1) sc_sizes_of.nd) (pgscons (pgname (i := 2) sc_sizes_of.nd) pgsnil))))
      (pssone (psret (ptup (pacons (pcallB (cLenK (K := K)) (by rfl) T.b_len (by decide +kernel) (pacons (pv 1) panil)) (pacons (pcallB (cLenK (K := K)) (by rfl) T.b_len (by decide +kernel) (pacons (pv 2) panil)) (pacons (pcallB (cLenK (K := K)) (by rfl) T.b_len (by decide +kernel) (pacons (pixK (K := K) (pv 2) pinT) panil)) panil))))))), fun vs M Q Ep h => ?_⟩)
  obtain ⟨n0, n1, n2, W, C, rfl, h1, k⟩ := h
  have a1 := at_mk (f := fun i => PV.tup (mk n2 fun j => .tup (mk n0 fun c => .str (C i j c)))) h1
  walk_at "go"
  refine ⟨M, .refl _, ?_⟩
  simp only [mk_len]
  exact k

def sp__law_sizes (K : Kf) : PSpec := fun vs M Q _ => ∃ n0 n1 n2 W C, vs = [tab n0 n1 n2 W C] ∧ 0 < n1 ∧ ∀ p, M p = none → Q (.ref p) (updM M p (.lst [.int (n0 : Nat), .int (n1 : Nat), .int (n2 : Nat)]))
theorem sp__law_sizes_len {K : Kf} {vs : List PV} {M : PHp} {Q : PVK} {E : PXK} (h : sp__law_sizes K vs M Q E) : vs.length = 1 := by
  obtain ⟨_, _, _, _, _, rfl, _⟩ := h; rfl

def spArr (K : Kf) : PSpec := fun vs M Q _ => ∃ n0 n1 n2 W C p0 p1 p2, vs = [tab n0 n1 n2 W C, .tup [ordv n0 p0, ordv n1 p1, ordv n2 p2]] ∧ n0 ≤ 1000 ∧ n1 ≤ 1000 ∧ n2 ≤ 1000 ∧ (∀ k, k < n0 → p0 k < n0) ∧ (∀ k, k < n1 → p1 k < n1) ∧ (∀ k, k < n2 → p2 k < n2) ∧
  Q (tab n0 n1 n2 (fun c => W (p0 c)) (fun i j c => C (p1 i) (p2 j) (p0 c))) M
theorem spArr_len {K : Kf} {vs : List PV} {M : PHp} {Q : PVK} {E : PXK} (h : spArr K vs M Q E) : vs.length = 2 := by
  obtain ⟨_, _, _, _, _, _, _, _, rfl, _⟩ := h; rfl
abbrev sp__law_arranged := spArr
theorem sp__law_arranged_len {K : Kf} {vs : List PV} {M : PHp} {Q : PVK} {E : PXK} (h : sp__law_arranged K vs M Q E) : vs.length = 2 := spArr_len h
def sp_arranged (K : Kf) : PSpec := fun vs M Q _ => ∃ n0 n1 n2 W C p0 p1 p2 x, vs = [tab n0 n1 n2 W C, x] ∧ (x = .tup [ordv n0 p0, ordv n1 p1, ordv n2 p2] ∨ ∃ a, x = .ref a ∧ M a = some (.lst [ordv n0 p0, ordv n1 p1, ordv n2 p2])) ∧ n0 ≤ 1000 ∧ n1 ≤ 1000 ∧ n2 ≤ 1000 ∧ (∀ k, k < n0 → p0 k < n0) ∧ (∀ k, k < n1 → p1 k < n1) ∧ (∀ k, k < n2 → p2 k < n2) ∧
  Q (tab n0 n1 n2 (fun c => W (p0 c)) (fun i j c => C (p1 i) (p2 j) (p0 c))) M
theorem sp_arranged_len {K : Kf} {vs : List PV} {M : PHp} {Q : PVK} {E : PXK} (h : sp_arranged K vs M Q E) : vs.length = 2 := by
  obtain ⟨_, _, _, _, _, _, _, _, _, rfl, _⟩ := h; rfl

theorem ok_arranged {P : Program} {w : World} {K : Kf} {mg : Str → Option Value} {base : Heap} (h0 : Here K mg "arranged" s_arranged ["table", "orders"]) (T : Blt mg) (Su : Sure P base)  : Callee P w K mg base 34 "arranged" ["table", "orders"] (sp_arranged K) := by
  refine ok_of h0 sc_arranged (fun vs M Q E h => sp_arranged_len h) (fun f cdv A outer s H E hr => ⟨_, (psscons (psasg (pv 0) (pgtup rfl (pgscons (pgname (i := 2) sc_arranged.nd) (pgscons (pgname (i := 3) sc_arranged.nd) pgsnil))))
      (psscons (psset 4 sc_arranged.nd (plst panil))
      (psscons (psfor PassesOwn.never rfl (piseqK (K := K) (pixK (K := K) (pv 1) pinT)) (pgname (i := 5) sc_arranged.nd) (pssone (psexpr (pbmK (K := K) PySem.F.plainAttrs_list PySem.F.slot_list_append PySem.F.type_list_append mAppend (pv 4) (pacons (pcallTy (cTupleK (K := K)) (by rfl) T.b_tuple (by decide +kernel) (pacons (plcP  rfl sc_arranged.nd (piseqK (K := K) (pixK (K := K) (pv 1) pinT)) (blkOk_by (own := [("column", 6)]) (N := ["table", "orders", "weights", "cells", "rows", "row", "column", "chance"]) (sc := defScope s_arranged) (by decide +kernel)) (tgName (by decide)) (fun _ _ _ _ _ => (pg_name (i := 6) sc_arranged.nd rfl (by first | exact Or.inl rfl | exact Or.inr rfl))) (fun _ _ _ _ _ => (pcallTy (cTupleK (K := K)) (by rfl) T.b_tuple (by decide +kernel) (pacons (plcP  rfl sc_arranged.nd (piseqK (K := K) (pixK (K := K) (pv 1) pinT)) (blkOk_n1 (own := [("chance", 7)]) (N := ["table", "orders", "weights", "cells", "rows", "row", "column", "chance"]) (sc0 := defScope s_arranged) rfl (by decide +kernel)) (tgName (by decide)) (fun _ _ _ _ _ => (pg_name (i := 7) sc_arranged.nd rfl (by first | exact Or.inl rfl | exact Or.inr rfl))) (fun _ _ _ _ _ => (pixK (K := K) (pixK (K := K) (pixK (K := K) (pv 3) (pv 5)) (pv 6)) (pv 7)))) panil)))) panil)) panil)))))
      (pssone (psret (ptup (pacons (pcallTy (cTupleK (K := K)) (by rfl) T.b_tuple (by decide +kernel) (pacons (plcP  rfl sc_arranged.nd (piseqK (K := K) (pixK (K := K) (pv 1) pinT)) (blkOk_by (own := [("chance", 7)]) (N := ["table", "orders", "weights", "cells", "rows", "row", "column", "chance"]) (sc := defScope s_arranged) (by decide +kernel)) (tgName (by decide)) (fun _ _ _ _ _ => (pg_name (i := 7) sc_arranged.nd rfl (by first | exact Or.inl rfl | exact Or.inr rfl))) (fun _ _ _ _ _ => (pixK (K := K) (pv 2) (pv 7)))) panil)) (pacons (pcallTy (cTupleK (K := K)) (by rfl) T.b_tuple (by decide +kernel) (pacons (pv 4) panil)) panil)))))))), fun vs M Q Ep h => ?_⟩)
  obtain ⟨n0, n1, n2, W, C, p0, p1, p2, x, rfl, hx, l0, l1, l2, b0, b1, b2, k⟩ := h
  rcases hx with rfl | ⟨a, rfl, ha⟩
  rotate_left
  · have h0 : Hd [] M M [] := .start
    walk_at "go"
    refine ald h0 fun rw hrw h0 => ?_
    replace h0 := h0 (.lst [])
    walk_at "on"
    refine ⟨fun i σ M1 => ∃ w5 : Option PV, σ = [some (tab n0 n1 n2 W C), some (.ref a), some (tabW n0 W), some (tabF n0 n1 n2 C), some (.ref rw), w5, none, none] ∧ Hd [] M M1 [(rw, .lst (mk i (fun i => PV.tup (mk n2 fun j => .tup (mk n0 fun c => .str (C (p1 i) (p2 j) (p0 c)))))))], ⟨_, _, .refl _, .refl _, _, rfl, h0⟩, ?_, ?_, ?_⟩
    · intros; trivial
    · clear h0 hrw
      rintro i x σ M1 hx ⟨w5, rfl, h0⟩
      obtain ⟨hi, rfl⟩ := mk_get hx
      have a1 := at_mk (f := fun i => PV.tup (mk n2 fun j => .tup (mk n0 fun c => .str (C i j c)))) (b1 i hi)
      walk_at "on"
      refine ⟨fun j => PV.tup (mk n0 fun c => .str (C (p1 i) (p2 j) (p0 c))), by rw [mk_len]; omega, fun _ _ => trivial, fun j x M2 Q2 hx sb2 k2 => ?_, fun Dl l hD hl => ?_⟩
      · obtain ⟨hj, rfl⟩ := mk_get hx
        have ha2 := sb2 _ _ (h0.sub _ _ ha)
        have a2 := at_mk (f := fun j => PV.tup (mk n0 fun c => .str (C (p1 i) j c))) (b2 j hj)
        refine ⟨_, rfl, ?_⟩
        walk_at "on"
        refine ⟨fun c => .str (C (p1 i) (p2 j) (p0 c)), by rw [mk_len]; omega, fun _ _ => trivial, fun c x M3 Q3 hx sb3 k3 => ?_, fun Dl l hD hl => ?_⟩
        · obtain ⟨hc, rfl⟩ := mk_get hx
          have a3 := at_mk (f := fun c => PV.str (C (p1 i) (p2 j) c)) (b0 c hc)
          refine ⟨_, rfl, ?_⟩
          walk_at "on"
          exact k3 _ (.refl _)
        · subst hl
          simp only [mk_len]
          walk_at "on"
          exact k2 _ (.new hD)
      · subst hl
        simp only [mk_len]
        replace h0 := h0.new (o := .lst (mk n2 fun j => PV.tup (mk n0 fun c => .str (C (p1 i) (p2 j) (p0 c))))) hD
        walk_at "on"
        refine ⟨_, h0.get 1 rfl, by rw [mk_len, sizeLine_eq]; omega, ?_⟩
        walk_at "on"
        refine ⟨_, _, by walk_at "subs", .refl _, _, rfl, ?_⟩
        rw [mk_succ]
        exact h0.up1.less (by simp)
    · clear h0 hrw
      rintro σ M1 ⟨w5, rfl, h0⟩
      rw [mk_len] at h0
      walk_at "on"
      refine ⟨fun c => .int (W (p0 c)), by rw [mk_len]; omega, fun _ _ => trivial, fun c x M2 Q2 hx sb2 k2 => ?_, fun Dl l hD hl => ?_⟩
      · obtain ⟨hc, rfl⟩ := mk_get hx
        have a3 := at_mk (f := fun c => PV.int (W c)) (b0 c hc)
        refine ⟨_, rfl, ?_⟩
        walk_at "on"
        exact k2 _ (.refl _)
      · subst hl
        simp only [mk_len]
        replace h0 := h0.new (o := .lst (mk n0 fun c => PV.int (W (p0 c)))) hD
        walk_at "on"
        exact ⟨M, h0.sub, k⟩
  walk_at "go"
  intro p hp
  walk_at "on"
  refine ⟨fun i σ M1 => ∃ rs : List PV, σ = [some (tab n0 n1 n2 W C), some (.tup [ordv n0 p0, ordv n1 p1, ordv n2 p2]), some (tabW n0 W), some (tabF n0 n1 n2 C), some (.ref p), none, none, none] ∧ Sub (updM M p (.lst rs)) M1 ∧ rs = mk i (fun i => PV.tup (mk n2 fun j => .tup (mk n0 fun c => .str (C (p1 i) (p2 j) (p0 c))))), ⟨_, _, .refl _, .refl _, [], rfl, .refl _, rfl⟩, ?_, ?_, ?_⟩
  · intros; trivial
  · rintro i x σ M1 hx ⟨rs, rfl, sb, hrs⟩
    obtain ⟨hi, rfl⟩ := mk_get hx
    have a1 := at_mk (f := fun i => PV.tup (mk n2 fun j => .tup (mk n0 fun c => .str (C i j c)))) (b1 i hi)
    have hp0 : M1 p = some (.lst rs) := sb p _ updM_same
    walk_at "on"
    refine ⟨fun j => PV.tup (mk n0 fun c => .str (C (p1 i) (p2 j) (p0 c))), by rw [mk_len]; omega, fun _ _ => trivial, fun j x M2 Q2 hx sb2 k2 => ?_, fun Dl l hD hl => ?_⟩
    · obtain ⟨hj, rfl⟩ := mk_get hx
      have a2 := at_mk (f := fun j => PV.tup (mk n0 fun c => .str (C (p1 i) j c))) (b2 j hj)
      refine ⟨_, rfl, ?_⟩
      walk_at "on"
      refine ⟨fun c => .str (C (p1 i) (p2 j) (p0 c)), by rw [mk_len]; omega, fun _ _ => trivial, fun c x M3 Q3 hx sb3 k3 => ?_, fun Dl l hD hl => ?_⟩
      · obtain ⟨hc, rfl⟩ := mk_get hx
        have a3 := at_mk (f := fun c => PV.str (C (p1 i) (p2 j) c)) (b0 c hc)
        refine ⟨_, rfl, ?_⟩
        walk_at "on"
        exact k3 _ (.refl _)
      · subst hl
        simp only [mk_len]
        walk_at "on"
        exact k2 _ (.new hD)
    · subst hl
      simp only [mk_len]
      walk_at "on"
      have hp1 : updM M1 Dl (.lst (mk n2 fun j => PV.tup (mk n0 fun c => .str (C (p1 i) (p2 j) (p0 c))))) p = some (.lst rs) := by
        have q := sb p _ updM_same
        rw [updM_ne (neM q hD)]; exact q
      refine ⟨rs, hp1, by rw [hrs, mk_len, sizeLine_eq]; omega, ?_⟩
      walk_at "on"
      refine ⟨_, _, by walk_at "subs", .refl _, rs ++ [_], rfl, ?_, by rw [hrs, mk_succ]⟩
      have := ((sb.trans (.new hD (o := .lst (mk n2 fun j => PV.tup (mk n0 fun c => .str (C (p1 i) (p2 j) (p0 c))))))).upd (p := p) (o := .lst (rs ++ [PV.tup (mk n2 fun j => .tup (mk n0 fun c => .str (C (p1 i) (p2 j) (p0 c))))])))
      rw [updM_updM] at this
      exact this
  · rintro σ M1 ⟨rs, rfl, sb, hrs⟩
    rw [mk_len] at hrs
    walk_at "on"
    refine ⟨fun c => .int (W (p0 c)), by rw [mk_len]; omega, fun _ _ => trivial, fun c x M2 Q2 hx sb2 k2 => ?_, fun Dl l hD hl => ?_⟩
    · obtain ⟨hc, rfl⟩ := mk_get hx
      have a3 := at_mk (f := fun c => PV.int (W c)) (b0 c hc)
      refine ⟨_, rfl, ?_⟩
      walk_at "on"
      exact k2 _ (.refl _)
    · subst hl
      simp only [mk_len]
      walk_at "on"
      have q := sb p _ updM_same
      refine ⟨rs, .inl (by rw [updM_ne (neM q hD)]; exact q), ?_⟩
      walk_at "on"
      rw [hrs]
      exact ⟨M, (Sub.trans (.new hp) sb).trans (.new hD), k⟩

theorem ok__law_arranged {P : Program} {w : World} {K : Kf} {mg : Str → Option Value} {base : Heap} (h0 : Here K mg "_law_arranged" s__law_arranged ["table", "orders"]) (T : Blt mg) (Su : Sure P base)  : Callee P w K mg base 34 "_law_arranged" ["table", "orders"] (sp__law_arranged K) := by
  refine ok_of h0 sc__law_arranged (fun vs M Q E h => sp__law_arranged_len h) (fun f cdv A outer s H E hr => ⟨_, (psscons (psset 2 sc__law_arranged.nd (plst panil))
      (psscons (psfor PassesOwn.never rfl (piseqK (K := K) (pixK (K := K) (pv 1) pinT)) (pgname (i := 3) sc__law_arranged.nd) (psscons (psset 4 sc__law_arranged.nd (plst panil))
      (psscons (psfor PassesOwn.never rfl (piseqK (K := K) (pixK (K := K) (pv 1) pinT)) (pgname (i := 5) sc__law_arranged.nd) (pssone (psexpr (pbmK (K := K) PySem.F.plainAttrs_list PySem.F.slot_list_append PySem.F.type_list_append mAppend (pv 4) (pacons (pcallTy (cTupleK (K := K)) (by rfl) T.b_tuple (by decide +kernel) (pacons (plcP  rfl sc__law_arranged.nd (piseqK (K := K) (pixK (K := K) (pv 1) pinT)) (blkOk_by (own := [("c", 6)]) (N := ["table", "orders", "cells", "i", "layer", "j", "c"]) (sc := defScope s__law_arranged) (by decide +kernel)) (tgName (by decide)) (fun _ _ _ _ _ => (pg_name (i := 6) sc__law_arranged.nd rfl (by first | exact Or.inl rfl | exact Or.inr rfl))) (fun _ _ _ _ _ => (pixK (K := K) (pixK (K := K) (pixK (K := K) (pixK (K := K) (pv 0) pinT) (pv 3)) (pv 5)) (pv 6)))) panil)) panil)))))
      (pssone (psexpr (pbmK (K := K) PySem.F.plainAttrs_list PySem.F.slot_list_append PySem.F.type_list_append mAppend (pv 2) (pacons (pcallTy (cTupleK (K := K)) (by rfl) T.b_tuple (by decide +kernel) (pacons (pv 4) panil)) panil)))))))
      (pssone (psret (ptup (pacons (pcallTy (cTupleK (K := K)) (by rfl) T.b_tuple (by decide +kernel) (pacons (plcP  rfl sc__law_arranged.nd (piseqK (K := K) (pixK (K := K) (pv 1) pinT)) (blkOk_by (own := [("c", 6)]) (N := ["table", "orders", "cells", "i", "layer", "j", "c"]) (sc := defScope s__law_arranged) (by decide +kernel)) (tgName (by decide)) (fun _ _ _ _ _ => (pg_name (i := 6) sc__law_arranged.nd rfl (by first | exact Or.inl rfl | exact Or.inr rfl))) (fun _ _ _ _ _ => (pixK (K := K) (pixK (K := K) (pv 0) pinT) (pv 6)))) panil)) (pacons (pcallTy (cTupleK (K := K)) (by rfl) T.b_tuple (by decide +kernel) (pacons (pv 2) panil)) panil))))))), fun vs M Q Ep h => ?_⟩)
  obtain ⟨n0, n1, n2, W, C, p0, p1, p2, rfl, l0, l1, l2, b0, b1, b2, k⟩ := h
  walk_at "go"
  intro p hp
  walk_at "on"
  refine ⟨fun i σ M1 => ∃ rs : List PV, σ = [some (tab n0 n1 n2 W C), some (.tup [ordv n0 p0, ordv n1 p1, ordv n2 p2]), some (.ref p), none, none, none, none] ∧ Sub (updM M p (.lst rs)) M1 ∧ rs = mk i (fun i => PV.tup (mk n2 fun j => .tup (mk n0 fun c => .str (C (p1 i) (p2 j) (p0 c))))), ⟨_, _, .refl _, .refl _, [], rfl, .refl _, rfl⟩, ?_, ?_, ?_⟩
  · intros; trivial
  · rintro i x σ M1 hx ⟨rs, rfl, sb, hrs⟩
    obtain ⟨hi, rfl⟩ := mk_get hx
    have a1 := at_mk (f := fun i => PV.tup (mk n2 fun j => .tup (mk n0 fun c => .str (C i j c)))) (b1 i hi)
    have hp0 : M1 p = some (.lst rs) := sb p _ updM_same
    walk_at "on"
    intro pl hpl
    walk_at "on"
    refine ⟨fun j σ M2 => ∃ ls : List PV, σ = [some (tab n0 n1 n2 W C), some (.tup [ordv n0 p0, ordv n1 p1, ordv n2 p2]), some (.ref p), some (.int (p1 i : Nat)), some (.ref pl), none, none] ∧ Sub (updM M1 pl (.lst ls)) M2 ∧ ls = mk j (fun j => PV.tup (mk n0 fun c => .str (C (p1 i) (p2 j) (p0 c)))), ⟨_, _, by walk_at "subs", .refl _, [], rfl, .refl _, rfl⟩, ?_, ?_, ?_⟩
    · intros; trivial
    · rintro j x σ M2 hx ⟨ls, rfl, sb2, hls⟩
      obtain ⟨hj, rfl⟩ := mk_get hx
      have a2 := at_mk (f := fun j => PV.tup (mk n0 fun c => .str (C (p1 i) j c))) (b2 j hj)
      have hpl0 : M2 pl = some (.lst ls) := sb2 pl _ updM_same
      walk_at "on"
      refine ⟨fun c => .str (C (p1 i) (p2 j) (p0 c)), by rw [mk_len]; omega, fun _ _ => trivial, fun c x M3 Q3 hx sb3 k3 => ?_, fun Dl l hD hl => ?_⟩
      · obtain ⟨hc, rfl⟩ := mk_get hx
        have a3 := at_mk (f := fun c => PV.str (C (p1 i) (p2 j) c)) (b0 c hc)
        refine ⟨_, rfl, ?_⟩
        walk_at "on"
        exact k3 _ (.refl _)
      · subst hl
        simp only [mk_len]
        walk_at "on"
        have hpl1 : updM M2 Dl (.lst (mk n0 fun c => PV.str (C (p1 i) (p2 j) (p0 c)))) pl = some (.lst ls) := by
          rw [updM_ne (neM hpl0 hD)]; exact hpl0
        refine ⟨ls, hpl1, by rw [hls, mk_len, sizeLine_eq]; have := (mk_get hx).1; omega, ?_⟩
        walk_at "on"
        refine ⟨_, _, by walk_at "subs", .refl _, ls ++ [_], rfl, ?_, by rw [hls, mk_succ]⟩
        have := ((sb2.trans (.new hD (o := .lst (mk n0 fun c => PV.str (C (p1 i) (p2 j) (p0 c)))))).upd (p := pl) (o := .lst (ls ++ [PV.tup (mk n0 fun c => .str (C (p1 i) (p2 j) (p0 c)))])))
        rw [updM_updM] at this
        exact this
    · rintro σ M2 ⟨ls, rfl, sb2, hls⟩
      rw [mk_len] at hls
      have hpl0 : M2 pl = some (.lst ls) := sb2 pl _ updM_same
      have hp2 : M2 p = some (.lst rs) := sb2 p _ (by rw [updM_ne (neM hp0 hpl)]; exact hp0)
      walk_at "on"
      refine ⟨rs, hp2, by rw [hrs, mk_len, sizeLine_eq]; omega, ?_⟩
      walk_at "on"
      refine ⟨_, _, by walk_at "subs", .refl _, rs ++ [PV.tup ls], rfl, ?_, by rw [hrs, hls, mk_succ]⟩
      have := (((sb.trans (.new hpl)).trans sb2).upd (p := p) (o := .lst (rs ++ [PV.tup ls])))
      rw [updM_updM] at this
      exact this
  · rintro σ M1 ⟨rs, rfl, sb, hrs⟩
    rw [mk_len] at hrs
    walk_at "on"
    refine ⟨fun c => .int (W (p0 c)), by rw [mk_len]; omega, fun _ _ => trivial, fun c x M2 Q2 hx sb2 k2 => ?_, fun Dl l hD hl => ?_⟩
    · obtain ⟨hc, rfl⟩ := mk_get hx
      have a3 := at_mk (f := fun c => PV.int (W c)) (b0 c hc)
      refine ⟨_, rfl, ?_⟩
      walk_at "on"
      exact k2 _ (.refl _)
    · subst hl
      simp only [mk_len]
      walk_at "on"
      have q := sb p _ updM_same
      refine ⟨rs, .inl (by rw [updM_ne (neM q hD)]; exact q), ?_⟩
      walk_at "on"
      rw [hrs]
      exact ⟨M, (Sub.trans (.new hp) sb).trans (.new hD), k⟩

/-- three orders with their inverses -/
def sp_turned_orders (K : Kf) : PSpec := fun vs M Q _ => ∃ (m : Nat) (n : Nat → Nat) (p q : Nat → Nat → Nat), vs = [.tup (mk m fun t => ordv (n t) (p t))] ∧ m ≤ 1000 ∧ (∀ t, t < m → n t ≤ 1000 ∧ IV (n t) (p t) (q t)) ∧ Q (.tup (mk m fun t => ordv (n t) (q t))) M
theorem sp_turned_orders_len {K : Kf} {vs : List PV} {M : PHp} {Q : PVK} {E : PXK} (h : sp_turned_orders K vs M Q E) : vs.length = 1 := by
  obtain ⟨_, _, _, _, rfl, _⟩ := h; rfl
theorem ordv_ints (n : Nat) (p : Nat → Nat) : (mk n fun k => PV.int (p k : Nat)) = (mk n fun k => ((p k : Nat) : Int)).map PV.int := by rw [mk_map]
theorem iv_idx {n : Nat} {p q : Nat → Nat} (h : IV n p q) {m : Nat} (hm : m < n) : ((m : Nat) : Int) ∈ (mk n fun k => ((p k : Nat) : Int)) ∧ (mk n fun k => ((p k : Nat) : Int)).idxOf (m : Int) = q m := by
  have hin : ((m : Nat) : Int) ∈ (mk n fun k => ((p k : Nat) : Int)) := mk_mem.mpr ⟨q m, h.lt' m hm, by rw [h.pq m hm]⟩
  refine ⟨hin, ?_⟩
  have h1 := List.idxOf_lt_length_of_mem hin
  have h2 : (mk n fun k => ((p k : Nat) : Int))[(mk n fun k => ((p k : Nat) : Int)).idxOf (m : Int)]? = some (m : Int) := by
    rw [List.getElem?_eq_getElem h1, List.getElem_idxOf]
  obtain ⟨h3, h4⟩ := mk_get h2
  have h5 := h.qp _ h3
  rw [show p (List.idxOf (m : Int) (mk n fun k => ((p k : Nat) : Int))) = m by omega] at h5
  exact h5.symm

def sp__law_inverse (K : Kf) : PSpec := fun vs M Q _ => ∃ n p q, vs = [ordv n p] ∧ n ≤ 1000 ∧ IV n p q ∧ Q (ordv n q) M
theorem sp__law_inverse_len {K : Kf} {vs : List PV} {M : PHp} {Q : PVK} {E : PXK} (h : sp__law_inverse K vs M Q E) : vs.length = 1 := by
  obtain ⟨_, _, _, rfl, _⟩ := h; rfl
theorem inv_step {n : Nat} {p q : Nat → Nat} (h : IV n p q) {i : Nat} (hi : i < n) : (mk n fun j => PV.int (if q j < i then (q j : Nat) else 0)).set (p i) (.int (i : Nat)) = mk n fun j => PV.int (if q j < i + 1 then (q j : Nat) else 0) := by
  rw [mk_set]
  refine mk_congr fun j hj => ?_
  by_cases e : j = p i
  · subst e
    rw [if_pos rfl, h.qp i hi, if_pos (by omega)]
  · rw [if_neg e]
    have : q j ≠ i := fun z => e (by rw [← z, h.pq j hj])
    congr 1
    by_cases l : q j < i
    · rw [if_pos l, if_pos (by omega)]
    · rw [if_neg l, if_neg (by omega)]

def sp__law_composed (K : Kf) : PSpec := fun vs M Q _ => ∃ n p q, vs = [ordv n p, ordv n q] ∧ n ≤ 1000 ∧ (∀ k, k < n → q k < n) ∧ Q (ordv n fun k => p (q k)) M
theorem sp__law_composed_len {K : Kf} {vs : List PV} {M : PHp} {Q : PVK} {E : PXK} (h : sp__law_composed K vs M Q E) : vs.length = 2 := by
  obtain ⟨_, _, _, rfl, _⟩ := h; rfl

def sp__law_three (K : Kf) : PSpec := fun vs M Q _ => ∃ (a s z : Addr) (ns : List Int) (n0 n1 n2 : Nat), vs = [.ref a, .ref s, .ref z] ∧ Env K M a s ns ∧ z ≠ s ∧ M z = some (.lst [.int (n0 : Nat), .int (n1 : Nat), .int (n2 : Nat)]) ∧ n0 ≤ 1000 ∧ n1 ≤ 1000 ∧ n2 ≤ 1000 ∧
  ∀ p0 q0 p1 q1 p2 q2 M', IV n0 p0 q0 → IV n1 p1 q1 → IV n2 p2 q2 → Env K M' a s ns → Keep s M M' → Q (.tup [ordv n0 p0, ordv n1 p1, ordv n2 p2]) M'
theorem sp__law_three_len {K : Kf} {vs : List PV} {M : PHp} {Q : PVK} {E : PXK} (h : sp__law_three K vs M Q E) : vs.length = 3 := by
  obtain ⟨_, _, _, _, _, _, _, rfl, _⟩ := h; rfl

theorem dps_ints {K : Kf} {M : PHp} : ∀ ns : List Int, DpsP K M (ns.map PV.int) (ns.map PyData.int)
  | [] => .nil
  | _ :: r => .cons (.int _) (dps_ints r)
theorem eqv_ints : ∀ ns ms : List Int, PyData.eqvAll (ns.map PyData.int) (ms.map PyData.int) = decide (ns = ms)
  | [], [] => rfl
  | [], _ :: _ => rfl
  | _ :: _, [] => rfl
  | x :: xs, y :: ys => by
    show (x == y && PyData.eqvAll (xs.map PyData.int) (ys.map PyData.int)) = _
    rw [eqv_ints xs ys]
    by_cases h : x = y <;> by_cases h2 : xs = ys <;> simp [h, h2]
theorem sh_ints (ns : List Int) : SeqAt.shaped (.list (ns.map PyData.int)) = true ∧ SeqAt.shaped (.tuple (ns.map PyData.int)) = true := by
  have c : PyData.canLayAll0 (ns.map PyData.int) = true := by
    induction ns with
    | nil => rfl
    | cons x r ih => show (true && PyData.canLayAll0 (r.map PyData.int)) = true; rw [ih]; rfl
  have d : PyData.depthAll (ns.map PyData.int) = 0 := by
    induction ns with
    | nil => rfl
    | cons x r ih => 
      show max 0 (PyData.depthAll (r.map PyData.int)) = 0
      rw [ih (by simpa [PyData.canLayAll0, PyData.canLay0] using c)]; rfl
  constructor
  all_goals
    show (PyData.canLayAll0 (ns.map PyData.int) && decide (PyData.depthAll (ns.map PyData.int) + 1 ≤ 64)) = true
    rw [c, d]; rfl
theorem eqd_lists {K : Kf} {M : PHp} {a b : Addr} {ns ms : List Int} {R : Bool → Prop} (h1 : rdL K M a (ns.map PV.int)) (h2 : rdL K M b (ms.map PV.int)) (q : R (decide (ns = ms))) : eqD K (.ref a) (.ref b) M R :=
  eqD_of (.lst h1 (dps_ints ns)) (.lst h2 (dps_ints ms)) (sh_ints ns).1 (sh_ints ms).1 (by show R (PyData.eqvAll _ _); rw [eqv_ints]; exact q)

/-! all orders of n things -/
def ordStep (n : Nat) (L : List (List Int)) : List (List Int) := L.flatMap fun o => ((iota n).filter fun z => !decide (z ∈ o)).map fun z => o ++ [z]
def ordL (n : Nat) : Nat → List (List Int)
  | 0 => [[]]
  | k + 1 => ordStep n (ordL n k)
def fac : Nat → Nat
  | 0 => 1
  | k + 1 => fac k * (k + 1)
def ascC : List (List Int) → Bool
  | x :: y :: r => HT.lexLt x y && ascC (y :: r)
  | _ => true
theorem asc_at : ∀ {l : List (List Int)} {k : Nat} {x y : List Int}, ascC l = true → l[k]? = some x → l[k + 1]? = some y → HT.lexLt x y = true
  | [], _, _, _, _, h, _ => by simp at h
  | [_], 0, _, _, _, _, h => by simp at h
  | [_], _ + 1, _, _, _, h, _ => by simp at h
  | a :: b :: r, 0, x, y, hc, h1, h2 => by
    simp at h1 h2
    subst h1; subst h2
    unfold ascC at hc
    rw [Bool.and_eq_true] at hc
    exact hc.1
  | a :: b :: r, k + 1, x, y, hc, h1, h2 => by
    unfold ascC at hc
    rw [Bool.and_eq_true] at hc
    exact asc_at (l := b :: r) (k := k) hc.2 (by simpa using h1) (by simpa using h2)
def ordC (n : Nat) : Bool := decide ((ordL n n).length = fac n) && ((List.range n).all fun k => decide ((ordL n k).length ≤ 720)) && ((ordL n n).all fun o => o.isPerm (iota n)) && ascC (ordL n n) && decide (0 < fac n) && decide (fac n ≤ 720)
theorem ordC_all : ((List.range 7).all ordC) = true := by decide +kernel
structure OrdF (n : Nat) : Prop where
  len : (ordL n n).length = fac n
  few : ∀ k, k < n → (ordL n k).length ≤ 720
  perm : ∀ o ∈ ordL n n, o.Perm (iota n)
  asc : ascC (ordL n n) = true
  pos : 0 < fac n
  le : fac n ≤ 720
theorem ordF {n : Nat} (h : n ≤ 6) : OrdF n := by
  have := List.all_eq_true.mp ordC_all n (List.mem_range.mpr (by omega))
  unfold ordC at this
  simp only [Bool.and_eq_true, decide_eq_true_eq, List.all_eq_true] at this
  obtain ⟨⟨⟨⟨⟨h1, h2⟩, h3⟩, h4⟩, h5⟩, h6⟩ := this
  exact ⟨h1, fun k hk => h2 k (List.mem_range.mpr hk), fun o ho => List.isPerm_iff.mp (h3 o ho), h4, h5, h6⟩
theorem fac_le {n k : Nat} (hk : k ≤ n) (h : n ≤ 6) : fac k ≤ 720 := (ordF (Nat.le_trans hk h)).le
abbrev pvO (o : List Int) : PV := .tup (o.map PV.int)
theorem step_len (n : Nat) (L : List (List Int)) : (ordStep n L).length ≤ L.length * n := by
  induction L with
  | nil => simp [ordStep]
  | cons o L ih =>
    have e : ordStep n (o :: L) = (((iota n).filter fun z => !decide (z ∈ o)).map fun z => o ++ [z]) ++ ordStep n L := rfl
    have h := List.length_filter_le (fun z => !decide (z ∈ o)) (iota n)
    rw [iota_len] at h
    rw [e, List.length_append, List.length_map, List.length_cons, Nat.succ_mul]
    omega
theorem step_snoc (n : Nat) (L : List (List Int)) (o : List Int) : ordStep n (L ++ [o]) = ordStep n L ++ ((iota n).filter fun z => !decide (z ∈ o)).map fun z => o ++ [z] := by
  unfold ordStep
  rw [List.flatMap_append]
  simp
theorem ordL_len {n : Nat} : ∀ (k : Nat) (o : List Int), o ∈ ordL n k → o.length = k
  | 0, o, h => by
    rcases List.mem_singleton.mp h with rfl; rfl
  | k + 1, o, h => by
    obtain ⟨o1, h1, h2⟩ := List.mem_flatMap.mp h
    obtain ⟨z, _, rfl⟩ := List.mem_map.mp h2
    rw [List.length_append, ordL_len k o1 h1]; rfl
def sp_all_orders (K : Kf) : PSpec := fun vs M Q _ => ∃ n : Nat, vs = [.int n] ∧ n ≤ 6 ∧ ∀ p, M p = none → Q (.ref p) (updM M p (.lst ((ordL n n).map pvO)))
theorem sp_all_orders_len {K : Kf} {vs : List PV} {M : PHp} {Q : PVK} {E : PXK} (h : sp_all_orders K vs M Q E) : vs.length = 1 := by
  obtain ⟨_, rfl, _⟩ := h; rfl
theorem iota_at {n i : Nat} {x : PV} (h : (rng 0 n)[i]? = some x) : i < n ∧ x = .int (i : Int) ∧ (iota n).take (i + 1) = (iota n).take i ++ [(i : Int)] := by
  obtain ⟨hi, e⟩ := rng_get h
  refine ⟨hi, by rw [e, Int.zero_add], ?_⟩
  have : (iota n)[i]? = some (i : Int) := by
    unfold iota
    rw [List.getElem?_map, List.getElem?_range hi]; rfl
  rw [List.take_add_one, this]; rfl

theorem ok_all_orders {P : Program} {w : World} {K : Kf} {mg : Str → Option Value} {base : Heap} (h0 : Here K mg "all_orders" s_all_orders ["count"]) (T : Blt mg) (Su : Sure P base)  : Callee P w K mg base 34 "all_orders" ["count"] (sp_all_orders K) := by
  refine ok_of h0 sc_all_orders (fun vs M Q E h => sp_all_orders_len h) (fun f cdv A outer s H E hr => ⟨_, (psscons (psset 1 sc_all_orders.nd (plst (pacons (ptup panil) panil)))
      (psscons (psfor PassesOwn.never rfl (pirng1 (by rfl) T.b_range (pacons (pv 0) panil)) (pgname (i := 2) sc_all_orders.nd) (pssone (pssetlc2 1 [4] rfl sc_all_orders.nd rfl (sw_true rfl rfl rfl (by decide +kernel)) (piseqK (K := K) (pv 1)) (blkOk_by (own := [("order", 3), ("index", 4)]) (N := ["count", "found", "_", "order", "index"]) (sc := defScope s_all_orders) (by decide +kernel)) (tgName (by decide)) (by decide) (tgName (by decide)) (fun _ _ _ _ _ => (pg_name (i := 3) sc_all_orders.nd rfl (by first | exact Or.inl rfl | exact Or.inr rfl))) (fun _ _ _ _ _ => ptsnil) (fun _ _ _ _ _ => (pirng1 (by rfl) T.b_range (pacons (pv 0) panil))) (fun _ _ _ _ _ => (pg_name (i := 4) sc_all_orders.nd rfl (by first | exact Or.inl rfl | exact Or.inr rfl))) (fun _ _ _ _ _ => (ptsone (ptcmp (opNotIn (K := K)) (pv 4) (pv 3) rfl))) (fun _ _ _ _ _ => (pop opAdd (pv 3) (ptup (pacons (pv 4) panil)))))))
      (pssone (psret (pv 1))))), fun vs M Q Ep h => ?_⟩)
  obtain ⟨n, rfl, hn, k⟩ := h
  have F := ordF hn
  walk_at "go"
  intro p hp
  walk_at "on"
  refine ⟨by omega, ?_⟩
  refine ⟨fun i σ M1 => ∃ p : Addr, σ = [some (.int n), some (.ref p), none, none, none] ∧ M p = none ∧ M1 = updM M p (.lst ((ordL n i).map pvO)), ⟨_, _, .refl _, .refl _, p, rfl, hp, rfl⟩, ?_, ?_, ?_⟩
  · intros; trivial
  · rintro i x σ M1 hx ⟨p1, rfl, hp1, rfl⟩
    obtain ⟨hi, rfl⟩ := rng_get hx
    have hi : i < n := by omega
    have hf := F.few i hi
    walk_at "on"
    intro Dl hD
    have hpD : p1 ≠ Dl := neM updM_same hD
    refine ⟨fun j acc M2 => M2 = updM (updM M p1 (.lst ((ordL n i).map pvO))) Dl (.lst acc) ∧ acc = (ordStep n ((ordL n i).take j)).map pvO, ⟨_, .refl _, rfl, rfl⟩, ?_, ?_, ?_⟩
    · rintro j acc M2 ⟨rfl, _⟩
      exact .inl (by rw [updM_ne hpD]; exact updM_same)
    · rintro j x acc M2 hx ⟨rfl, hacc⟩
      rw [List.getElem?_map] at hx
      cases ho : (ordL n i)[j]? with
      | none => rw [ho] at hx; cases hx
      | some o =>
        rw [ho] at hx; cases hx
        have hj := lt_of_get ho
        have hal : acc.length ≤ 4320 := by
          rw [hacc, List.length_map]
          refine Nat.le_trans (step_len _ _) ?_
          rw [List.length_take]
          exact Nat.mul_le_mul (show min j (ordL n i).length ≤ 720 by omega) hn
        refine ⟨_, rfl, ?_⟩
        walk_at "on"
        refine ⟨by omega, ?_⟩
        refine ⟨fun l acc1 M3 => M3 = updM (updM M p1 (.lst ((ordL n i).map pvO))) Dl (.lst acc1) ∧ acc1 = acc ++ (((iota n).take l).filter fun z => !decide (z ∈ o)).map (fun z => pvO (o ++ [z])), ⟨_, .refl _, rfl, by simp⟩, ?_, ?_, ?_⟩
        · intros; trivial
        · rintro l x acc1 M3 hx ⟨rfl, hacc1⟩
          obtain ⟨hl, rfl, ht⟩ := iota_at (n := n) (by simpa using hx)
          have hal1 : acc1.length ≤ 4330 := by
            rw [hacc1, List.length_append, List.length_map]
            have := List.length_filter_le (fun z => !decide (z ∈ o)) ((iota n).take l)
            rw [List.length_take] at this
            omega
          refine ⟨_, rfl, ?_⟩
          walk_at "on"
          by_cases hm : (l : Int) ∈ o
          · refine br_f (by rw [decide_eq_true hm]; rfl) ?_
            refine ⟨_, .refl _, rfl, ?_⟩
            rw [hacc1, ht, List.filter_append]
            simp [hm]
          · refine br_t (by rw [decide_eq_false hm]; rfl) ?_
            walk_at "on"
            have ol := ordL_len i o (List.mem_of_getElem? ho)
            refine ⟨Nat.le_of_lt (sz_of (m := 1000) (by rw [List.length_map]; simp; omega) (by decide)), updM_same, by rw [sizeLine_eq]; omega, _, .refl _, updM_updM, ?_⟩
            rw [hacc1, ht, List.filter_append]
            simp [hm]
        · rintro acc1 M3 ⟨rfl, hacc1⟩
          refine ⟨_, .refl _, rfl, ?_⟩
          have e : (ordL n i).take (j + 1) = (ordL n i).take j ++ [o] := by rw [List.take_add_one, ho]; rfl
          have e2 : (iota n).take (rng 0 (n : Int).toNat).length = iota n := by
            rw [rng_len]; exact List.take_of_length_le (by rw [iota_len]; omega)
          rw [hacc1, hacc, e, step_snoc, List.map_append, List.map_map, e2]; rfl
    · rintro acc M2 ⟨rfl, hacc⟩
      rw [List.length_map, List.take_length] at hacc
      walk_at "on"
      rw [hacc]
      exact ⟨_, _, by walk_at "subs", (Sub.new hp1).upd, Dl, rfl, by rwa [updM_ne hpD.symm] at hD, rfl⟩
  · rintro σ M1 ⟨p1, rfl, hp1, rfl⟩
    rw [rng_len]
    walk_at "on"
    exact ⟨_, .refl _, k p1 hp1⟩

theorem perm_sorted : ∀ {l m : List Int}, l.Perm m → l.Pairwise (· ≤ ·) → m.Pairwise (· ≤ ·) → l = m
  | [], m, h, _, _ => (List.Perm.nil_eq h)
  | x :: l, [], h, _, _ => by have := h.length_eq; simp at this
  | x :: l, y :: m, h, h1, h2 => by
    have hx : x ∈ y :: m := h.mem_iff.mp List.mem_cons_self
    have hy : y ∈ x :: l := h.mem_iff.mpr List.mem_cons_self
    have p1 := List.pairwise_cons.mp h1
    have p2 := List.pairwise_cons.mp h2
    have e : x = y := by
      rcases List.mem_cons.mp hx with e | e
      · exact e
      rcases List.mem_cons.mp hy with e' | e'
      · exact e'.symm
      have := p2.1 x e
      have := p1.1 y e'
      omega
    subst e
    rw [perm_sorted ((List.perm_cons x).mp h) p1.2 p2.2]
theorem iota_sorted (n : Nat) : (iota n).Pairwise (· ≤ ·) := by
  unfold iota
  rw [List.pairwise_map]
  exact List.pairwise_le_range.imp fun h => by omega
def sp__law_orders_listed (K : Kf) : PSpec := fun vs M Q _ => ∃ n : Nat, vs = [.int (n : Int)] ∧ n ≤ 6 ∧ Q (.bl true) M
theorem sp__law_orders_listed_len {K : Kf} {vs : List PV} {M : PHp} {Q : PVK} {E : PXK} (h : sp__law_orders_listed K vs M Q E) : vs.length = 1 := by
  obtain ⟨_, rfl, _⟩ := h; rfl

/-! the order of deep data -/
abbrev ltV (x y : PV) : Bool := PySem.W.dataLt (toD x) (toD y)
abbrev alV (x y : PV) : Prop := PySem.W.alike (toD x) (toD y) = true
theorem ltV_irr (x : PV) : ltV x x = false := PyProof.Rows.lex_irrefl _
theorem ltV_trans {x y z : PV} (h : ltV x y = true) (h' : ltV y z = true) : ltV x z = true := PyProof.Rows.lex_trans _ _ _ h h'
theorem ltV_neg {x y z : PV} (h : ltV x z = true) : ltV x y = true ∨ ltV y z = true := PyProof.Rows.lex_negTrans _ _ _ h
theorem ltV_asy {x y : PV} (h : ltV x y = true) : ltV y x = false := by
  cases e : ltV y x with
  | false => rfl
  | true => have := ltV_trans h e; rw [ltV_irr] at this; cases this
theorem ltV_tot {n m : Nat} {x y : PV} (al : alV x y) (hx : TxtD n x) (hy : TxtD m y) (h : ltV x y = false) (h' : ltV y x = false) : x = y := by
  have e := PyProof.Rows.lex_total _ _ h h'
  have e : PySem.W.keyToks (toD x) = PySem.W.keyToks (toD y) := e
  obtain ⟨_, t⟩ := PySem.W.toks_eqv _ _ al
  cases q : PyData.eqv (toD x) (toD y) with
  | true => exact (TxtD.eqv hx hy).mp q
  | false =>
    have t1 := t q [] [.inl 0]
    rw [← e, PySem.W.lex_pre, PyProof.Rows.lex_irrefl] at t1
    cases t1
/-- the first difference is downwards -/
inductive FD : List PV → List PV → Prop
  | here {x y xs ys} : ltV x y = true → FD (x :: xs) (y :: ys)
  | there {x xs ys} : FD xs ys → FD (x :: xs) (x :: ys)
theorem FD.one {x y : PV} (h : FD [x] [y]) : ltV x y = true := by
  cases h with
  | here h => exact h
  | there h => cases h
def alL (xs ys : List PV) : Prop := PySem.W.alikeAll (toDs xs) (toDs ys) = true
theorem alL_cons {x y : PV} {xs ys : List PV} : alL (x :: xs) (y :: ys) ↔ alV x y ∧ alL xs ys := by
  show (PySem.W.alike (toD x) (toD y) && PySem.W.alikeAll (toDs xs) (toDs ys)) = true ↔ _
  rw [Bool.and_eq_true]; exact Iff.rfl
theorem alV_tup {xs ys : List PV} : alV (.tup xs) (.tup ys) ↔ alL xs ys := by
  show PySem.W.alike (.tuple (toDs xs)) (.tuple (toDs ys)) = true ↔ _
  rw [PySem.W.alike]; exact Iff.rfl
theorem lt_tup {n m : Nat} : ∀ {xs ys : List PV}, xs.length = ys.length → alL xs ys → (∀ x ∈ xs, TxtD n x) → (∀ y ∈ ys, TxtD m y) → (ltV (.tup xs) (.tup ys) = true ↔ FD xs ys)
  | [], [], _, _, _, _ => ⟨fun h => (by rw [ltV_irr] at h; cases h), fun h => (by cases h)⟩
  | [], _ :: _, h, _, _, _ => by simp at h
  | _ :: _, [], h, _, _, _ => by simp at h
  | x :: xs, y :: ys, hl, al, hx, hy => by
    obtain ⟨a1, a2⟩ := alL_cons.mp al
    have ih := lt_tup (n := n) (m := m) (xs := xs) (ys := ys) (by simpa using hl) a2 (fun z hz => hx z (List.mem_cons_of_mem _ hz)) fun z hz => hy z (List.mem_cons_of_mem _ hz)
    have ev := TxtD.eqv (hx x List.mem_cons_self) (hy y List.mem_cons_self)
    have e1 : ltV (.tup (x :: xs)) (.tup (y :: ys)) = if PyData.eqv (toD x) (toD y) = true then ltV (.tup xs) (.tup ys) else ltV x y := by
      show PySem.W.dataLt (.tuple (toD x :: toDs xs)) (.tuple (toD y :: toDs ys)) = _
      rw [PySem.W.dataLt_tuple, PySem.W.dataLt_cons a1]
      show _ = if _ then PySem.W.dataLt (.tuple (toDs xs)) (.tuple (toDs ys)) else _
      rw [PySem.W.dataLt_tuple]
    rw [e1]
    by_cases q : x = y
    · rw [if_pos (ev.mpr q), ih]
      subst q
      exact ⟨.there, fun h => by cases h with
        | here h => rw [ltV_irr] at h; cases h
        | there h => exact h⟩
    · rw [if_neg fun z => q (ev.mp z)]
      exact ⟨.here, fun h => by cases h with
        | here h => exact h
        | there _ => exact absurd rfl q⟩
theorem FD.app {a a' b b' : List PV} (hl : a.length = a'.length) : FD (a ++ b) (a' ++ b') ↔ FD a a' ∨ (a = a' ∧ FD b b') := by
  induction a generalizing a' with
  | nil =>
    cases a' with
    | nil => exact ⟨fun h => .inr ⟨rfl, h⟩, fun h => h.elim (fun h => by cases h) fun h => h.2⟩
    | cons _ _ => simp at hl
  | cons x a ih =>
    cases a' with
    | nil => simp at hl
    | cons y a' =>
      have ih := ih (a' := a') (by simpa using hl)
      rw [List.cons_append, List.cons_append]
      constructor
      · intro h
        cases h with
        | here h => exact .inl (.here h)
        | there h =>
          rcases ih.mp h with h1 | ⟨e, h1⟩
          · exact .inl (.there h1)
          · exact .inr ⟨by rw [e], h1⟩
      · rintro (h | ⟨e, h⟩)
        · cases h with
          | here h => exact .here h
          | there h => exact .there (ih.mpr (.inl h))
        · injection e with e1 e2
          subst e1 e2
          exact .there (ih.mpr (.inr ⟨rfl, h⟩))
theorem FD.flat {F G : Nat → List PV} : ∀ {n : Nat}, (∀ i, i < n → (F i).length = (G i).length) → (FD ((List.range n).flatMap F) ((List.range n).flatMap G) ↔ ∃ i, i < n ∧ (∀ k, k < i → F k = G k) ∧ FD (F i) (G i))
  | 0, _ => ⟨fun h => (by cases h), fun ⟨i, h, _⟩ => absurd h (by omega)⟩
  | n + 1, hl => by
    have len : ∀ m, m ≤ n → ((List.range m).flatMap F).length = ((List.range m).flatMap G).length := by
      intro m hm
      induction m with
      | zero => rfl
      | succ m ih => rw [List.range_succ, List.flatMap_append, List.flatMap_append, List.length_append, List.length_append, ih (by omega)]; simp [hl m (by omega)]
    have eqs : ((List.range n).flatMap F) = ((List.range n).flatMap G) ↔ ∀ k, k < n → F k = G k := by
      have : ∀ m, m ≤ n → (((List.range m).flatMap F) = ((List.range m).flatMap G) ↔ ∀ k, k < m → F k = G k) := by
        intro m hm
        induction m with
        | zero => exact ⟨fun _ k hk => absurd hk (by omega), fun _ => rfl⟩
        | succ m ih =>
          rw [List.range_succ, List.flatMap_append, List.flatMap_append]
          constructor
          · intro h k hk
            obtain ⟨h1, h2⟩ := List.append_inj h (len m (by omega))
            by_cases q : k < m
            · exact (ih (by omega)).mp h1 k q
            · have : k = m := by omega
              subst this
              simpa using h2
          · intro h
            rw [(ih (by omega)).mpr fun k hk => h k (by omega)]
            simp [h m (by omega)]
      exact this n (Nat.le_refl _)
    have ih := FD.flat (F := F) (G := G) (n := n) fun i hi => hl i (by omega)
    rw [List.range_succ, List.flatMap_append, List.flatMap_append, FD.app (len n (Nat.le_refl _)), ih, eqs]
    have e1 : ∀ H : Nat → List PV, [n].flatMap H = H n := fun H => by simp
    rw [e1, e1]
    constructor
    · rintro (⟨i, h1, h2, h3⟩ | ⟨h1, h2⟩)
      · exact ⟨i, by omega, h2, h3⟩
      · exact ⟨n, by omega, h1, h2⟩
    · rintro ⟨i, h1, h2, h3⟩
      by_cases q : i < n
      · exact .inl ⟨i, q, h2, h3⟩
      · have : i = n := by omega
        subst this
        exact .inr ⟨h2, h3⟩
theorem FD.mk {f g : Nat → PV} {n : Nat} : FD (mk n f) (mk n g) ↔ ∃ i, i < n ∧ (∀ k, k < i → f k = g k) ∧ ltV (f i) (g i) = true := by
  have e : ∀ h : Nat → PV, PL.mk n h = (List.range n).flatMap fun i => [h i] := fun h => by
    unfold PL.mk
    induction n with
    | zero => rfl
    | succ n ih => rw [List.range_succ, List.map_append, List.flatMap_append, ih]; simp
  rw [e, e, FD.flat (F := fun i => [f i]) (G := fun i => [g i]) fun _ _ => rfl]
  constructor
  · rintro ⟨i, h1, h2, h3⟩
    refine ⟨i, h1, fun k hk => by simpa using h2 k hk, ?_⟩
    exact FD.one h3
  · rintro ⟨i, h1, h2, h3⟩
    exact ⟨i, h1, fun k hk => by rw [h2 k hk], .here h3⟩
/-! orders as lists -/
theorem ord_in {n : Nat} {o : List Int} (h : o.Perm (iota n)) : o ∈ ordL n n := by
  have hl : o.length = n := h.length_eq.trans (iota_len n)
  have nd : o.Nodup := h.nodup_iff.mpr (iota_nodup n)
  have key : ∀ k, k ≤ n → o.take k ∈ ordL n k := by
    intro k
    induction k with
    | zero => intro _; rw [List.take_zero]; exact List.mem_singleton.mpr rfl
    | succ k ih =>
      intro hk
      have e := List.getElem?_eq_getElem (l := o) (i := k) (by omega)
      rw [take_succ' e]
      refine List.mem_flatMap.mpr ⟨o.take k, ih (by omega), List.mem_map.mpr ⟨_, List.mem_filter.mpr ⟨h.mem_iff.mp (List.getElem_mem _), ?_⟩, rfl⟩⟩
      have : o[k]'(by omega) ∉ o.take k := fun hm => by
        obtain ⟨j, hj⟩ := List.getElem?_of_mem hm
        have hjk : j < k := by have := lt_of_get hj; rw [List.length_take] at this; omega
        rw [List.getElem?_take, if_pos hjk] at hj
        have := (List.getElem?_inj (by omega : j < o.length) nd).mp (hj.trans e.symm)
        omega
      simpa using this
  have := key n (Nat.le_refl _)
  rwa [List.take_of_length_le (by omega)] at this
/-- the least of a list -/
theorem least_ex {α : Type} (f : α → PV) : ∀ {l : List α}, l ≠ [] → ∃ x ∈ l, ∀ y ∈ l, ltV (f y) (f x) = false
  | [], h => absurd rfl h
  | [a], _ => ⟨a, List.mem_cons_self, fun y hy => by rw [List.mem_singleton.mp hy]; exact ltV_irr _⟩
  | a :: b :: l, _ => by
    obtain ⟨x, hx, h⟩ := least_ex f (l := b :: l) (by simp)
    cases q : ltV (f a) (f x) with
    | false =>
      refine ⟨x, List.mem_cons_of_mem _ hx, fun y hy => ?_⟩
      rcases List.mem_cons.mp hy with rfl | hy
      · exact q
      · exact h y hy
    | true =>
      refine ⟨a, List.mem_cons_self, fun y hy => ?_⟩
      rcases List.mem_cons.mp hy with rfl | hy
      · exact ltV_irr _
      · cases z : ltV (f y) (f a) with
        | false => rfl
        | true => have := ltV_trans z q; rw [h y hy] at this; cases this
def swp (i : Nat) (k : Nat) : Nat := if k = i then i + 1 else if k = i + 1 then i else k
theorem swp_swp (i k : Nat) : swp i (swp i k) = k := by
  unfold swp
  by_cases h : k = i
  · subst h; rw [if_pos rfl, if_neg (by omega), if_pos rfl]
  · rw [if_neg h]
    by_cases h2 : k = i + 1
    · subst h2; rw [if_pos rfl, if_pos rfl]
    · rw [if_neg h2, if_neg h, if_neg h2]
theorem swp_lt {i k n : Nat} (hi : i + 1 < n) (hk : k < n) : swp i k < n := by unfold swp; split <;> (try split) <;> omega
theorem IV.swp {n : Nat} {p q : Nat → Nat} (h : IV n p q) {i : Nat} (hi : i + 1 < n) : IV n (fun k => p (swp i k)) (fun k => PL.swp i (q k)) :=
  ⟨fun k hk => h.lt _ (swp_lt hi hk), fun k hk => swp_lt hi (h.lt' k hk), fun k hk => by show PL.swp i (q (p (PL.swp i k))) = k; rw [h.qp _ (swp_lt hi hk), swp_swp], fun k hk => by show p (PL.swp i (PL.swp i (q k))) = k; rw [swp_swp, h.pq k hk]⟩
abbrev orI (n : Nat) (p : Nat → Nat) : List Int := mk n fun k => ((p k : Nat) : Int)
theorem iv_perm {n : Nat} {p q : Nat → Nat} (h : IV n p q) : (orI n p).Perm (iota n) := by
  refine (List.perm_ext_iff_of_nodup ?_ (iota_nodup n)).mpr fun z => ?_
  · unfold orI PL.mk
    rw [List.nodup_iff_pairwise_ne, List.pairwise_map]
    refine List.Pairwise.imp_of_mem ?_ List.pairwise_lt_range
    intro a b ha hb hab e
    have ha := List.mem_range.mp ha
    have hb := List.mem_range.mp hb
    have e : p a = p b := by omega
    have h1 := h.qp a ha
    rw [e, h.qp b hb] at h1
    omega
  · rw [mk_mem, iota_mem]
    constructor
    · rintro ⟨i, hi, rfl⟩
      have := h.lt i hi
      omega
    · rintro ⟨h0, h1⟩
      have hz : z.toNat < n := by omega
      exact ⟨q z.toNat, h.lt' _ hz, by rw [h.pq _ hz]; omega⟩
theorem of_perm {n : Nat} {o : List Int} (h : o.Perm (iota n)) : ∃ p q, IV n p q ∧ o = orI n p := IsOrdN.fn (o := o) h
/-- two sorted lists of the same things -/
theorem sorted_eq {n : Nat} : ∀ {a b : List PV}, a.Perm b → (∀ x ∈ a, ∀ y ∈ a, alV x y) → (∀ x ∈ a, TxtD n x) → a.Pairwise (fun x y => ltV y x = false) → b.Pairwise (fun x y => ltV y x = false) → a = b
  | [], b, h, _, _, _, _ => h.nil_eq
  | x :: a, [], h, _, _, _, _ => by have := h.length_eq; simp at this
  | x :: a, y :: b, h, al, tx, ha, hb => by
    obtain ⟨ha1, ha2⟩ := List.pairwise_cons.mp ha
    obtain ⟨hb1, hb2⟩ := List.pairwise_cons.mp hb
    have hy : y ∈ x :: a := h.mem_iff.mpr List.mem_cons_self
    have hx : x ∈ y :: b := h.mem_iff.mp List.mem_cons_self
    have e : x = y := by
      refine ltV_tot (al _ List.mem_cons_self _ hy) (tx _ List.mem_cons_self) (tx _ hy) ?_ ?_
      · rcases List.mem_cons.mp hx with e | hx
        · rw [e]; exact ltV_irr _
        · exact hb1 x hx
      · rcases List.mem_cons.mp hy with e | hy
        · rw [e]; exact ltV_irr _
        · exact ha1 y hy
    subst e
    rw [sorted_eq ((List.perm_cons x).mp h) (fun u hu v hv => al u (List.mem_cons_of_mem _ hu) v (List.mem_cons_of_mem _ hv)) (fun u hu => tx u (List.mem_cons_of_mem _ hu)) ha2 hb2]
theorem mk_perm {α : Type} {n : Nat} {p q : Nat → Nat} (h : IV n p q) (f : Nat → α) : (mk n fun k => f (p k)).Perm (mk n f) := by
  have e : (mk n fun k => f (p k)) = (orI n p).map fun z => f z.toNat := by
    rw [mk_map]
    exact mk_congr fun k _ => by rw [Int.toNat_natCast]
  have e2 : mk n f = (iota n).map fun z => f z.toNat := by
    unfold iota PL.mk
    rw [List.map_map]
    exact List.map_congr_left fun k _ => by show f k = f ((k : Int).toNat); rw [Int.toNat_natCast]
  rw [e, e2]
  exact (iv_perm h).map _
theorem mk_pair {R : PV → PV → Prop} {n : Nat} {f : Nat → PV} : (mk n f).Pairwise R ↔ ∀ i j, i < j → j < n → R (f i) (f j) := by
  unfold PL.mk
  rw [List.pairwise_map]
  constructor
  · intro h i j hij hj
    have := List.pairwise_iff_getElem.mp h i j (by simp; omega) (by simpa using hj) hij
    simpa using this
  · intro h
    refine List.Pairwise.imp_of_mem ?_ List.pairwise_lt_range
    intro a b ha hb hab
    exact h a b hab (List.mem_range.mp hb)
/-- by sorting one axis the least of its arrangements is found -/
theorem axis_least {n m : Nat} (part : Nat → PV) (T : (Nat → Nat) → PV) (al : ∀ x y, x < n → y < n → alV (part x) (part y)) (tx : ∀ x, x < n → TxtD m (part x))
    (cg : ∀ r s, (∀ k, k < n → r k < n ∧ s k < n ∧ part (r k) = part (s k)) → T r = T s)
    (sw : ∀ r i, (∀ k, k < n → r k < n) → i + 1 < n → ltV (part (r (i + 1))) (part (r i)) = true → ltV (T fun k => r (swp i k)) (T r) = true)
    {p q : Nat → Nat} (hp : IV n p q) (srt : ∀ i j, i < j → j < n → ltV (part (p j)) (part (p i)) = false) {s t : Nat → Nat} (hs : IV n s t) : ltV (T s) (T p) = false := by
  obtain ⟨o, ho, least⟩ := least_ex (f := fun o : List Int => T fun k => (o.getD k 0).toNat) (l := (ordL n n).filter fun o => decide (o.Perm (iota n))) fun e => by
    have : orI n p ∈ (ordL n n).filter fun o => decide (o.Perm (iota n)) := List.mem_filter.mpr ⟨ord_in (iv_perm hp), by simpa using iv_perm hp⟩
    rw [e] at this; cases this
  have ho := (List.mem_filter.mp ho).2
  obtain ⟨r, r', hr, rfl⟩ := of_perm (n := n) (by simpa using ho)
  have gt : ∀ u : Nat → Nat, ∀ k, k < n → ((orI n u).getD k 0).toNat = u k := fun u k hk => by rw [List.getD_eq_getElem?_getD, mk_at hk]; simp
  have Tg : ∀ u v, IV n u v → T (fun k => ((orI n u).getD k 0).toNat) = T u := fun u v hu => cg _ _ fun k hk => by rw [gt u k hk]; exact ⟨hu.lt k hk, hu.lt k hk, rfl⟩
  have lst : ∀ u v, IV n u v → ltV (T u) (T r) = false := fun u v hu => by
    have := least (orI n u) (List.mem_filter.mpr ⟨ord_in (iv_perm hu), by simpa using iv_perm hu⟩)
    rwa [Tg u v hu, Tg r r' hr] at this
  have adj : ∀ i, i + 1 < n → ltV (part (r (i + 1))) (part (r i)) = false := fun i hi => by
    cases e : ltV (part (r (i + 1))) (part (r i)) with
    | false => rfl
    | true => have := sw r i hr.lt hi e; rw [lst _ _ (hr.swp hi)] at this; cases this
  have srt2 : ∀ d i, i + d + 1 < n → ltV (part (r (i + d + 1))) (part (r i)) = false := by
    intro d
    induction d with
    | zero => intro i hi; exact adj i hi
    | succ d ih =>
      intro i hi
      cases e : ltV (part (r (i + (d + 1) + 1))) (part (r i)) with
      | false => rfl
      | true =>
        rcases ltV_neg (y := part (r (i + d + 1))) e with h | h
        · have := adj (i + d + 1) (by omega)
          rw [show i + d + 1 + 1 = i + (d + 1) + 1 by omega, h] at this; cases this
        · rw [ih i (by omega)] at h; cases h
  have e : (mk n fun k => part (r k)) = mk n fun k => part (p k) := by
    refine sorted_eq (n := m) ((mk_perm hr part).trans (mk_perm hp part).symm) (fun x hx y hy => ?_) (fun x hx => ?_) (mk_pair.mpr fun i j hij hj => ?_) (mk_pair.mpr srt)
    · obtain ⟨i, hi, rfl⟩ := mk_mem.mp hx
      obtain ⟨j, hj, rfl⟩ := mk_mem.mp hy
      exact al _ _ (hr.lt i hi) (hr.lt j hj)
    · obtain ⟨i, hi, rfl⟩ := mk_mem.mp hx
      exact tx _ (hr.lt i hi)
    · have := srt2 (j - i - 1) i (by omega)
      rwa [show i + (j - i - 1) + 1 = j by omega] at this
  rw [← cg r p fun k hk => ⟨hr.lt k hk, hp.lt k hk, mk_inj e k hk⟩]
  exact lst s t hs
/-! tables -/
def sel {α : Type} (x y z : α) : Nat → α
  | 0 => x
  | 1 => y
  | _ => z
theorem alL_of : ∀ {xs ys : List PV}, (∀ x ∈ xs, ∀ y ∈ ys, alV x y) → alL xs ys
  | [], _, _ => by show PySem.W.alikeAll [] _ = true; rw [PySem.W.alikeAll]
  | _ :: _, [], _ => by show PySem.W.alikeAll (_ :: _) [] = true; rw [PySem.W.alikeAll]
  | x :: xs, y :: ys, h => alL_cons.mpr ⟨h x List.mem_cons_self y List.mem_cons_self, alL_of fun a ha b hb => h a (List.mem_cons_of_mem _ ha) b (List.mem_cons_of_mem _ hb)⟩
theorem al_str (x y : Str) : alV (.str x) (.str y) := rfl
theorem al_int (x y : Int) : alV (.int x) (.int y) := rfl
theorem al_mk {n m : Nat} {f g : Nat → PV} (h : ∀ i j, alV (f i) (g j)) : alV (.tup (mk n f)) (.tup (mk m g)) := alV_tup.mpr (alL_of fun x hx y hy => by
  obtain ⟨i, _, rfl⟩ := mk_mem.mp hx
  obtain ⟨j, _, rfl⟩ := mk_mem.mp hy
  exact h i j)
theorem al_2 {x y x' y' : PV} (h : alV x x') (h' : alV y y') : alV (.tup [x, y]) (.tup [x', y']) := alV_tup.mpr (alL_cons.mpr ⟨h, alL_cons.mpr ⟨h', alL_of fun _ hx => by cases hx⟩⟩)
theorem al_tab {n0 n1 n2 m0 m1 m2 : Nat} {W W' : Nat → Int} {C C' : Nat → Nat → Nat → Str} : alV (tab n0 n1 n2 W C) (tab m0 m1 m2 W' C') :=
  al_2 (al_mk fun _ _ => al_int _ _) (al_mk fun _ _ => al_mk fun _ _ => al_mk fun _ _ => al_str _ _)
theorem tx_mk {n k : Nat} {f : Nat → PV} (hn : n ≤ 1000) (h : ∀ i, TxtD k (f i)) : TxtD (k + 1) (.tup (mk n f)) := .tup (by rw [mk_len]; omega) fun x hx => by
  obtain ⟨i, _, rfl⟩ := mk_mem.mp hx
  exact h i
theorem tx_2 {k : Nat} {x y : PV} (h : TxtD k x) (h' : TxtD k y) : TxtD (k + 1) (.tup [x, y]) := .tup (by show 2 ≤ 16777216; decide) fun z hz => by
  rcases List.mem_cons.mp hz with rfl | hz
  · exact h
  · rw [List.mem_singleton.mp hz]; exact h'
theorem tx_tab {k n0 n1 n2 : Nat} {W : Nat → Int} {C : Nat → Nat → Nat → Str} (h0 : n0 ≤ 1000) (h1 : n1 ≤ 1000) (h2 : n2 ≤ 1000) : TxtD (k + 5) (tab n0 n1 n2 W C) :=
  tx_2 (tx_mk h0 fun _ => .int _) (tx_mk h1 fun _ => tx_mk h2 fun _ => tx_mk h0 fun _ => .str _)
theorem lt_mk {n k : Nat} {f g : Nat → PV} (al : ∀ i j, alV (f i) (g j)) (tf : ∀ i, TxtD k (f i)) (tg : ∀ i, TxtD k (g i)) : ltV (.tup (mk n f)) (.tup (mk n g)) = true ↔ ∃ i, i < n ∧ (∀ k, k < i → f k = g k) ∧ ltV (f i) (g i) = true :=
  (lt_tup (n := k) (m := k) (by rw [mk_len, mk_len]) (alV_tup.mp (al_mk al)) (fun x hx => by obtain ⟨i, _, rfl⟩ := mk_mem.mp hx; exact tf i) fun x hx => by obtain ⟨i, _, rfl⟩ := mk_mem.mp hx; exact tg i).trans FD.mk
theorem lt_2 {k : Nat} {x y x' y' : PV} (h : alV x x') (h' : alV y y') (t1 : TxtD k x) (t2 : TxtD k y) (t3 : TxtD k x') (t4 : TxtD k y') : ltV (.tup [x, y]) (.tup [x', y']) = true ↔ ltV x x' = true ∨ (x = x' ∧ ltV y y' = true) := by
  have tl : ∀ {u v : PV}, TxtD k u → TxtD k v → ∀ z ∈ [u, v], TxtD k z := fun hu hv z hz => by
    rcases List.mem_cons.mp hz with rfl | hz
    · exact hu
    · rw [List.mem_singleton.mp hz]; exact hv
  rw [lt_tup (n := k) (m := k) (xs := [x, y]) (ys := [x', y']) rfl (alV_tup.mp (al_2 h h')) (tl t1 t2) (tl t3 t4)]
  constructor
  · intro h
    cases h with
    | here h => exact .inl h
    | there h => exact .inr ⟨rfl, h.one⟩
  · rintro (z | ⟨e, z⟩)
    · exact .here z
    · rw [e]; exact .there (.here z)
/-- two loops in one list -/
abbrev flS (a b : Nat) (F : Nat → Nat → Str) : PV := .tup ((List.range a).flatMap fun i => mk b fun j => .str (F i j))
theorem flS_mem {a b : Nat} {F : Nat → Nat → Str} {x : PV} (h : x ∈ (List.range a).flatMap fun i => mk b fun j => PV.str (F i j)) : ∃ i j, i < a ∧ j < b ∧ x = .str (F i j) := by
  obtain ⟨i, hi, hx⟩ := List.mem_flatMap.mp h
  obtain ⟨j, hj, rfl⟩ := mk_mem.mp hx
  exact ⟨i, j, List.mem_range.mp hi, hj, rfl⟩
theorem flS_len {a b : Nat} {F : Nat → Nat → Str} : ((List.range a).flatMap fun i => mk b fun j => PV.str (F i j)).length = a * b := by
  induction a with
  | zero => simp
  | succ a ih => rw [List.range_succ, List.flatMap_append, List.length_append, ih, Nat.succ_mul]; simp [mk_len]
theorem al_flS {a b a' b' : Nat} {F G : Nat → Nat → Str} : alV (flS a b F) (flS a' b' G) := alV_tup.mpr (alL_of fun x hx y hy => by
  obtain ⟨i, j, _, _, rfl⟩ := flS_mem hx
  obtain ⟨i', j', _, _, rfl⟩ := flS_mem hy
  exact al_str _ _)
theorem tx_flS {k a b : Nat} {F : Nat → Nat → Str} (h : a * b ≤ 1000000) : TxtD (k + 2) (flS a b F) := .tup (by rw [flS_len]; omega) fun x hx => by
  obtain ⟨i, j, _, _, rfl⟩ := flS_mem hx
  exact .str _
theorem lt_flS {a b : Nat} {F G : Nat → Nat → Str} : ltV (flS a b F) (flS a b G) = true ↔ ∃ i, i < a ∧ (∀ k, k < i → ∀ j, j < b → F k j = G k j) ∧ ∃ j, j < b ∧ (∀ l, l < j → F i l = G i l) ∧ ltV (.str (F i j)) (.str (G i j)) = true := by
  rw [lt_tup (n := 1) (m := 1) (by rw [flS_len, flS_len]) (alV_tup.mp al_flS) (fun x hx => by obtain ⟨i, j, _, _, rfl⟩ := flS_mem hx; exact .str _) (fun x hx => by obtain ⟨i, j, _, _, rfl⟩ := flS_mem hx; exact .str _), FD.flat fun i _ => by rw [mk_len, mk_len]]
  constructor
  · rintro ⟨i, h1, h2, h3⟩
    obtain ⟨j, h4, h5, h6⟩ := FD.mk.mp h3
    exact ⟨i, h1, fun k hk j hj => PV.str.inj (mk_inj (h2 k hk) j hj), j, h4, fun l hl => PV.str.inj (h5 l hl), h6⟩
  · rintro ⟨i, h1, h2, j, h4, h5, h6⟩
    exact ⟨i, h1, fun k hk => mk_congr fun j hj => by rw [h2 k hk j hj], FD.mk.mpr ⟨j, h4, fun l hl => by rw [h5 l hl], h6⟩⟩
theorem flS_inj {a b : Nat} {F G : Nat → Nat → Str} (h : flS a b F = flS a b G) : ∀ i, i < a → ∀ j, j < b → F i j = G i j := by
  replace h : ((List.range a).flatMap fun i => mk b fun j => PV.str (F i j)) = (List.range a).flatMap fun i => mk b fun j => PV.str (G i j) := PV.tup.inj h
  induction a with
  | zero => exact fun i hi => absurd hi (by omega)
  | succ a ih =>
    rw [List.range_succ, List.flatMap_append, List.flatMap_append] at h
    obtain ⟨h1, h2⟩ := List.append_inj h (by rw [flS_len, flS_len])
    intro i hi
    by_cases q : i < a
    · exact ih h1 i q
    · have : i = a := by omega
      subst this
      simp only [List.flatMap_cons, List.flatMap_nil, List.append_nil] at h2
      exact fun j hj => PV.str.inj (mk_inj h2 j hj)
theorem flS_congr {a b : Nat} {F G : Nat → Nat → Str} (h : ∀ i, i < a → ∀ j, j < b → F i j = G i j) : flS a b F = flS a b G := by
  refine congrArg PV.tup ?_
  rw [List.flatMap_def, List.flatMap_def]
  exact congrArg List.flatten (List.map_congr_left fun i hi => mk_congr fun j hj => by rw [h i (List.mem_range.mp hi) j hj])
/-- when a table is less -/
theorem tab_lt {n0 n1 n2 : Nat} {W W' : Nat → Int} {C C' : Nat → Nat → Nat → Str} (b0 : n0 ≤ 1000) (b1 : n1 ≤ 1000) (b2 : n2 ≤ 1000)
    (h : (∃ c, c < n0 ∧ (∀ k, k < c → W k = W' k) ∧ W c < W' c) ∨ ((∀ k, k < n0 → W k = W' k) ∧ ∃ i, i < n1 ∧ (∀ k, k < i → ∀ j, j < n2 → ∀ c, c < n0 → C k j c = C' k j c) ∧ ∃ j, j < n2 ∧ (∀ k, k < j → ∀ c, c < n0 → C i k c = C' i k c) ∧
      ∃ c, c < n0 ∧ (∀ k, k < c → C i j k = C' i j k) ∧ ltV (.str (C i j c)) (.str (C' i j c)) = true)) : ltV (tab n0 n1 n2 W C) (tab n0 n1 n2 W' C') = true := by
  refine (lt_2 (k := 4) (al_mk fun _ _ => al_int _ _) (al_mk fun _ _ => al_mk fun _ _ => al_mk fun _ _ => al_str _ _) (tx_mk b0 fun _ => .int _) (tx_mk b1 fun _ => tx_mk b2 fun _ => tx_mk b0 fun _ => .str _) (tx_mk b0 fun _ => .int _) (tx_mk b1 fun _ => tx_mk b2 fun _ => tx_mk b0 fun _ => .str _)).mpr ?_
  rcases h with ⟨c, h1, h2, h3⟩ | ⟨hw, i, h1, h2, j, h3, h4, c, h5, h6, h7⟩
  · refine .inl ((lt_mk (k := 1) (fun _ _ => al_int _ _) (fun _ => .int _) fun _ => .int _).mpr ⟨c, h1, fun k hk => by rw [h2 k hk], ?_⟩)
    show PySem.W.dataLt (.int _) (.int _) = true
    rw [PySem.W.dataLt_int]; exact decide_eq_true h3
  · refine .inr ⟨congrArg PV.tup (mk_congr fun k hk => by rw [hw k hk]), ?_⟩
    refine (lt_mk (k := 3) (fun _ _ => al_mk fun _ _ => al_mk fun _ _ => al_str _ _) (fun _ => tx_mk b2 fun _ => tx_mk b0 fun _ => .str _) fun _ => tx_mk b2 fun _ => tx_mk b0 fun _ => .str _).mpr ⟨i, h1, fun k hk => congrArg PV.tup (mk_congr fun j hj => congrArg PV.tup (mk_congr fun c hc => by rw [h2 k hk j hj c hc])), ?_⟩
    refine (lt_mk (k := 2) (fun _ _ => al_mk fun _ _ => al_str _ _) (fun _ => tx_mk b0 fun _ => .str _) fun _ => tx_mk b0 fun _ => .str _).mpr ⟨j, h3, fun k hk => congrArg PV.tup (mk_congr fun c hc => by rw [h4 k hk c hc]), ?_⟩
    exact (lt_mk (k := 1) (fun _ _ => al_str _ _) (fun _ => .str _) fun _ => .str _).mpr ⟨c, h5, fun k hk => by rw [h6 k hk], h7⟩
theorem swp_low {i k : Nat} (h : k < i) : swp i k = k := by unfold swp; rw [if_neg (by omega), if_neg (by omega)]
theorem swp_self {i : Nat} : swp i i = i + 1 := by unfold swp; rw [if_pos rfl]
theorem swp_next {i : Nat} : swp i (i + 1) = i := by unfold swp; rw [if_neg (by omega), if_pos rfl]
theorem swp_high {i k : Nat} (h : i + 1 < k) : swp i k = k := by unfold swp; rw [if_neg (by omega), if_neg (by omega)]
abbrev arrP (n0 n1 n2 : Nat) (W : Nat → Int) (C : Nat → Nat → Nat → Str) (P : Nat → Nat → Nat) : PV := tab n0 n1 n2 (fun c => W (P 0 c)) fun i j c => C (P 1 i) (P 2 j) (P 0 c)
def updP (P : Nat → Nat → Nat) (o : Nat) (r : Nat → Nat) : Nat → Nat → Nat := fun k => if k = o then r else P k
theorem updP_same {P : Nat → Nat → Nat} {o : Nat} {r : Nat → Nat} : updP P o r o = r := if_pos rfl
theorem updP_ne {P : Nat → Nat → Nat} {o k : Nat} {r : Nat → Nat} (h : k ≠ o) : updP P o r k = P k := if_neg h
/-- what a place of an axis holds -/
def partP (n0 n1 n2 : Nat) (W : Nat → Int) (C : Nat → Nat → Nat → Str) (P : Nat → Nat → Nat) (o x : Nat) : PV :=
  if o = 0 then .tup [.int (W x), flS n1 n2 fun i j => C (P 1 i) (P 2 j) x] else if o = 1 then flS n2 n0 fun j c => C x (P 2 j) (P 0 c) else flS n1 n0 fun i c => C (P 1 i) x (P 0 c)
theorem partP_0 {n0 n1 n2 x : Nat} {W : Nat → Int} {C : Nat → Nat → Nat → Str} {P : Nat → Nat → Nat} : partP n0 n1 n2 W C P 0 x = .tup [.int (W x), flS n1 n2 fun i j => C (P 1 i) (P 2 j) x] := rfl
theorem partP_1 {n0 n1 n2 x : Nat} {W : Nat → Int} {C : Nat → Nat → Nat → Str} {P : Nat → Nat → Nat} : partP n0 n1 n2 W C P 1 x = flS n2 n0 fun j c => C x (P 2 j) (P 0 c) := rfl
theorem partP_2 {n0 n1 n2 x : Nat} {W : Nat → Int} {C : Nat → Nat → Nat → Str} {P : Nat → Nat → Nat} : partP n0 n1 n2 W C P 2 x = flS n1 n0 fun i c => C (P 1 i) x (P 0 c) := rfl
theorem eq_sw {α : Type} {f : Nat → α} {r : Nat → Nat} {i : Nat} (e : f (r (i + 1)) = f (r i)) (k : Nat) : f (r (swp i k)) = f (r k) := by
  unfold swp
  by_cases h : k = i
  · subst h; rw [if_pos rfl]; exact e
  · rw [if_neg h]
    by_cases h2 : k = i + 1
    · subst h2; rw [if_pos rfl]; exact e.symm
    · rw [if_neg h2]
theorem part_least {n0 n1 n2 : Nat} {W : Nat → Int} {C : Nat → Nat → Nat → Str} {P : Nat → Nat → Nat} {o : Nat} (ho : o ≤ 2) (b0 : n0 ≤ 1000) (b1 : n1 ≤ 1000) (b2 : n2 ≤ 1000) {p q : Nat → Nat} (hp : IV (sel n0 n1 n2 o) p q)
    (srt : ∀ i j, i < j → j < sel n0 n1 n2 o → ltV (partP n0 n1 n2 W C P o (p j)) (partP n0 n1 n2 W C P o (p i)) = false) {s t : Nat → Nat} (hs : IV (sel n0 n1 n2 o) s t) :
    ltV (arrP n0 n1 n2 W C (updP P o s)) (arrP n0 n1 n2 W C (updP P o p)) = false := by
  have m1 : n1 * n2 ≤ 1000000 := Nat.mul_le_mul b1 b2
  have m2 : n2 * n0 ≤ 1000000 := Nat.mul_le_mul b2 b0
  have m3 : n1 * n0 ≤ 1000000 := Nat.mul_le_mul b1 b0
  refine axis_least (m := 3) (partP n0 n1 n2 W C P o) (fun r => arrP n0 n1 n2 W C (updP P o r)) (fun x y _ _ => ?_) (fun x _ => ?_) (fun r s h => ?_) (fun r i hr hi hlt => ?_) hp srt hs
  · unfold partP
    split
    · exact al_2 (al_int _ _) al_flS
    · split <;> exact al_flS
  · unfold partP
    split
    · exact tx_2 (.int _) (tx_flS (k := 0) m1)
    · split
      · exact tx_flS (k := 1) m2
      · exact tx_flS (k := 1) m3
  · obtain rfl | rfl | rfl : o = 0 ∨ o = 1 ∨ o = 2 := by omega
    · have e : ∀ k, k < n0 → W (r k) = W (s k) ∧ ∀ i, i < n1 → ∀ j, j < n2 → C (P 1 i) (P 2 j) (r k) = C (P 1 i) (P 2 j) (s k) := fun k hk => by
        have h := (h k hk).2.2
        rw [partP_0, partP_0] at h
        have h := PV.tup.inj h
        injection h with h1 h2
        injection h2 with h2 _
        exact ⟨PV.int.inj h1, flS_inj h2⟩
      exact tab_congr (fun c hc => (e c hc).1) fun i j c hi hj hc => (e c hc).2 i hi j hj
    · refine tab_congr (fun c hc => rfl) fun i j c hi hj hc => ?_
      have h := (h i hi).2.2
      rw [partP_1, partP_1] at h
      exact flS_inj h j hj c hc
    · refine tab_congr (fun c hc => rfl) fun i j c hi hj hc => ?_
      have h := (h j hj).2.2
      rw [partP_2, partP_2] at h
      exact flS_inj h i hi c hc
  · obtain rfl | rfl | rfl : o = 0 ∨ o = 1 ∨ o = 2 := by omega
    · have hi : i + 1 < n0 := hi
      rw [partP_0, partP_0] at hlt
      rcases (lt_2 (k := 2) (al_int _ _) al_flS (.int _) (tx_flS (k := 0) m1) (.int _) (tx_flS (k := 0) m1)).mp hlt with h | ⟨h, h2⟩
      · have h : W (r (i + 1)) < W (r i) := by
          have h : PySem.W.dataLt (.int _) (.int _) = true := h
          rw [PySem.W.dataLt_int] at h; exact of_decide_eq_true h
        refine tab_lt b0 b1 b2 (.inl ⟨i, by omega, fun k hk => ?_, ?_⟩)
        · show W (r (swp i k)) = W (r k)
          rw [swp_low hk]
        · show W (r (swp i i)) < W (r i)
          rw [swp_self]; exact h
      · obtain ⟨x, g1, g2, y, g3, g4, g5⟩ := lt_flS.mp h2
        refine tab_lt b0 b1 b2 (.inr ⟨fun k _ => eq_sw (f := W) (PV.int.inj h) k, x, g1, fun k hk j hj c _ => eq_sw (f := fun c => C (P 1 k) (P 2 j) c) (g2 k hk j hj) c, y, g3, fun k hk c _ => eq_sw (f := fun c => C (P 1 x) (P 2 k) c) (g4 k hk) c, i, by omega, fun k hk => ?_, ?_⟩)
        · show C (P 1 x) (P 2 y) (r (swp i k)) = C (P 1 x) (P 2 y) (r k)
          rw [swp_low hk]
        · show ltV (.str (C (P 1 x) (P 2 y) (r (swp i i)))) (.str (C (P 1 x) (P 2 y) (r i))) = true
          rw [swp_self]; exact g5
    · have hi : i + 1 < n1 := hi
      rw [partP_1, partP_1] at hlt
      obtain ⟨x, g1, g2, y, g3, g4, g5⟩ := lt_flS.mp hlt
      refine tab_lt b0 b1 b2 (.inr ⟨fun k _ => rfl, i, by omega, fun k hk j hj c hc => ?_, x, g1, fun k hk c hc => ?_, y, g3, fun k hk => ?_, ?_⟩)
      · show C (r (swp i k)) (P 2 j) (P 0 c) = C (r k) (P 2 j) (P 0 c)
        rw [swp_low hk]
      · show C (r (swp i i)) (P 2 k) (P 0 c) = C (r i) (P 2 k) (P 0 c)
        rw [swp_self]; exact g2 k hk c hc
      · show C (r (swp i i)) (P 2 x) (P 0 k) = C (r i) (P 2 x) (P 0 k)
        rw [swp_self]; exact g4 k hk
      · show ltV (.str (C (r (swp i i)) (P 2 x) (P 0 y))) (.str (C (r i) (P 2 x) (P 0 y))) = true
        rw [swp_self]; exact g5
    · have hi : i + 1 < n2 := hi
      rw [partP_2, partP_2] at hlt
      obtain ⟨x, g1, g2, y, g3, g4, g5⟩ := lt_flS.mp hlt
      refine tab_lt b0 b1 b2 (.inr ⟨fun k _ => rfl, x, g1, fun k hk j hj c hc => eq_sw (f := fun j => C (P 1 k) j (P 0 c)) (g2 k hk c hc) j, i, by omega, fun k hk c hc => ?_, y, g3, fun k hk => ?_, ?_⟩)
      · show C (P 1 x) (r (swp i k)) (P 0 c) = C (P 1 x) (r k) (P 0 c)
        rw [swp_low hk]
      · show C (P 1 x) (r (swp i i)) (P 0 k) = C (P 1 x) (r i) (P 0 k)
        rw [swp_self]; exact g4 k hk
      · show ltV (.str (C (P 1 x) (r (swp i i)) (P 0 y))) (.str (C (P 1 x) (r i) (P 0 y))) = true
        rw [swp_self]; exact g5

theorem sel_at {n0 n1 n2 o : Nat} (ho : o ≤ 2) : atI [PV.int (n0 : Nat), .int (n1 : Nat), .int (n2 : Nat)] (o : Int) = some (.int (sel n0 n1 n2 o : Nat)) := by
  obtain rfl | rfl | rfl : o = 0 ∨ o = 1 ∨ o = 2 := by omega
  all_goals rfl
theorem at_of {L : List PV} {k : Nat} {v : PV} (h : L[k]? = some v) : atI L (k : Int) = some v := atI_nat h
theorem sel_le {n0 n1 n2 o b : Nat} (h0 : n0 ≤ b) (h1 : n1 ≤ b) (h2 : n2 ≤ b) : sel n0 n1 n2 o ≤ b := by
  unfold sel; split <;> assumption
def sp__sorted_axis (K : Kf) : PSpec := fun vs M Q _ => ∃ (n0 n1 n2 : Nat) (W : Nat → Int) (C : Nat → Nat → Nat → Str) (o : Nat) (l : Addr) (L : List PV) (P : Nat → Nat → Nat), vs = [tab n0 n1 n2 W C, .int (o : Int), .ref l] ∧ o ≤ 2 ∧ M l = some (.lst L) ∧
  (∀ k, k ≤ 2 → k ≠ o → L[k]? = some (ordv (sel n0 n1 n2 k) (P k)) ∧ ∀ i, i < sel n0 n1 n2 k → P k i < sel n0 n1 n2 k) ∧ 1 ≤ n1 ∧ n0 ≤ 40 ∧ n1 ≤ 40 ∧ n2 ≤ 40 ∧
  ∀ p q M', IV (sel n0 n1 n2 o) p q → (∀ s t, IV (sel n0 n1 n2 o) s t → ltV (arrP n0 n1 n2 W C (updP P o s)) (arrP n0 n1 n2 W C (updP P o p)) = false) → Sub M M' → Q (ordv (sel n0 n1 n2 o) p) M'
theorem sp__sorted_axis_len {K : Kf} {vs : List PV} {M : PHp} {Q : PVK} {E : PXK} (h : sp__sorted_axis K vs M Q E) : vs.length = 3 := by
  obtain ⟨_, _, _, _, _, _, _, _, _, rfl, _⟩ := h; rfl
theorem flS_snoc {a b : Nat} {F : Nat → Nat → Str} : ((List.range (a + 1)).flatMap fun i => mk b fun j => PV.str (F i j)) = ((List.range a).flatMap fun i => mk b fun j => PV.str (F i j)) ++ mk b fun j => PV.str (F a j) := by
  rw [List.range_succ, List.flatMap_append]; simp
theorem dle {x y : PV} : PySem.W.dataLe false toD x y = !ltV y x := rfl
theorem sorted_lt (L : List PV) : (L.mergeSort (PySem.W.dataLe false toD)).Pairwise fun x y => ltV y x = false := by
  refine (List.pairwise_mergeSort (le := PySem.W.dataLe false toD) (fun a b c h1 h2 => ?_) (fun a b => ?_) L).imp fun {a b} h => ?_
  · rw [dle] at h1 h2 ⊢
    cases e : ltV c a with
    | false => rfl
    | true =>
      rcases ltV_neg (y := b) e with h | h
      · rw [h] at h2; cases h2
      · rw [h] at h1; cases h1
  · rw [dle, dle]
    cases e : ltV b a with
    | false => rfl
    | true => rw [ltV_asy e]; rfl
  · rw [dle] at h; simpa using h
theorem TxtD.more : ∀ {n m : Nat} {x : PV}, TxtD n x → n ≤ m → TxtD m x
  | _, m, _, .non, h => by obtain ⟨k, rfl⟩ : ∃ k, m = k + 1 := ⟨m - 1, by omega⟩; exact .non
  | _, m, _, .int i, h => by obtain ⟨k, rfl⟩ : ∃ k, m = k + 1 := ⟨m - 1, by omega⟩; exact .int i
  | _, m, _, .str i, h => by obtain ⟨k, rfl⟩ : ∃ k, m = k + 1 := ⟨m - 1, by omega⟩; exact .str i
  | n + 1, m, _, .tup h1 h2, h => by
    obtain ⟨k, rfl⟩ : ∃ k, m = k + 1 := ⟨m - 1, by omega⟩
    exact .tup h1 fun x hx => TxtD.more (h2 x hx) (by omega)
theorem sort_axis {n m : Nat} {part : Nat → PV} (al : ∀ x y, x < n → y < n → alV (part x) (part y)) (tx : ∀ x, x < n → TxtD m (part x)) : ∃ p q, IV n p q ∧
    (mk n fun x => PV.tup [part x, .int (x : Int)]).mergeSort (PySem.W.dataLe false toD) = mk n (fun k => .tup [part (p k), .int ((p k : Nat) : Int)]) ∧ ∀ i j, i < j → j < n → ltV (part (p j)) (part (p i)) = false := by
  have pm := List.mergeSort_perm (mk n fun x => PV.tup [part x, .int (x : Int)]) (PySem.W.dataLe false toD)
  have sl := sorted_lt (mk n fun x => PV.tup [part x, .int (x : Int)])
  generalize (mk n fun x => PV.tup [part x, .int (x : Int)]).mergeSort (PySem.W.dataLe false toD) = S at pm sl
  have sz : ∀ z : PV, ∃ i : Int, (∀ x y, z = .tup [x, .int y] → i = y) := fun z => by
    by_cases h : ∃ x y, z = .tup [x, .int y]
    · obtain ⟨x, y, rfl⟩ := h
      exact ⟨y, fun x' y' e => by injection e with e; injection e with _ e; injection e with e _; exact PV.int.inj e⟩
    · exact ⟨0, fun x y e => absurd ⟨x, y, e⟩ h⟩
  obtain ⟨g, hg⟩ := Classical.axiomOfChoice sz
  have o1 : (S.map g).Perm (iota n) := by
    refine (pm.map g).trans (List.Perm.of_eq ?_)
    rw [mk_map]
    unfold iota PL.mk
    exact List.map_congr_left fun x _ => hg _ _ _ rfl
  obtain ⟨p, q, hp, e⟩ := of_perm o1
  have hl : S.length = n := by rw [pm.length_eq, mk_len]
  have eS : S = mk n fun k => .tup [part (p k), .int ((p k : Nat) : Int)] := by
    rw [mk_get_iff]
    refine ⟨hl, fun i x hx => ?_⟩
    obtain ⟨y, hy, rfl⟩ := mk_mem.mp (pm.mem_iff.mp (List.mem_of_getElem? hx))
    have h1 : (S.map g)[i]? = some (y : Int) := by rw [List.getElem?_map, hx, Option.map_some, hg _ _ _ rfl]
    rw [e, mk_at (by rw [← hl]; exact lt_of_get hx)] at h1
    have := Option.some.inj h1
    rw [show p i = y by omega]
  refine ⟨p, q, hp, eS, fun i j hij hj => ?_⟩
  rw [eS] at sl
  have h := mk_pair.mp sl i j hij hj
  cases z : ltV (part (p j)) (part (p i)) with
  | false => rfl
  | true =>
    have hi : i < n := by omega
    have tl : ∀ k, k < n → ∀ x ∈ [part (p k), PV.int ((p k : Nat) : Int)], TxtD (m + 1) x := fun k hk x hx => by
      rcases List.mem_cons.mp hx with rfl | hx
      · exact (tx _ (hp.lt k hk)).more (by omega)
      · rw [List.mem_singleton.mp hx]; exact .int _
    have := (lt_tup (n := m + 1) (m := m + 1) (xs := [part (p j), .int ((p j : Nat) : Int)]) (ys := [part (p i), .int ((p i : Nat) : Int)]) rfl (alL_cons.mpr ⟨al _ _ (hp.lt j hj) (hp.lt i hi), alL_cons.mpr ⟨al_int _ _, alL_of fun _ hx => by cases hx⟩⟩) (tl j hj) (tl i hi)).mpr (.here z)
    rw [this] at h; cases h
theorem part_al {n0 n1 n2 o : Nat} {W : Nat → Int} {C : Nat → Nat → Nat → Str} {P : Nat → Nat → Nat} (x y : Nat) : alV (partP n0 n1 n2 W C P o x) (partP n0 n1 n2 W C P o y) := by
  unfold partP
  split
  · exact al_2 (al_int _ _) al_flS
  · split <;> exact al_flS
theorem part_tx {n0 n1 n2 o : Nat} {W : Nat → Int} {C : Nat → Nat → Nat → Str} {P : Nat → Nat → Nat} (b0 : n0 ≤ 1000) (b1 : n1 ≤ 1000) (b2 : n2 ≤ 1000) (x : Nat) : TxtD 3 (partP n0 n1 n2 W C P o x) := by
  have m1 : n1 * n2 ≤ 1000000 := Nat.mul_le_mul b1 b2
  have m2 : n2 * n0 ≤ 1000000 := Nat.mul_le_mul b2 b0
  have m3 : n1 * n0 ≤ 1000000 := Nat.mul_le_mul b1 b0
  unfold partP
  split
  · exact tx_2 (.int _) (tx_flS (k := 0) m1)
  · split
    · exact tx_flS (k := 1) m2
    · exact tx_flS (k := 1) m3

theorem ok__sorted_axis {P : Program} {w : World} {K : Kf} {mg : Str → Option Value} {base : Heap} (h0 : Here K mg "_sorted_axis" s__sorted_axis ["table", "owner", "orders"]) (T : Blt mg) (Su : Sure P base) (C_sizes_of : Callee P w K mg base 34 "sizes_of" ["table"] (sp_sizes_of K)) : Callee P w K mg base 35 "_sorted_axis" ["table", "owner", "orders"] (sp__sorted_axis K) := by
  refine ok_of h0 sc__sorted_axis (fun vs M Q E h => sp__sorted_axis_len h) (fun f cdv A outer s H E hr => ⟨_, (psscons (psasg (pv 0) (pgtup rfl (pgscons (pgname (i := 3) sc__sorted_axis.nd) (pgscons (pgname (i := 4) sc__sorted_axis.nd) pgsnil))))
      (psscons (psset 5 sc__sorted_axis.nd (plst panil))
      (psscons (psfor PassesOwn.never rfl (pirng1 (by rfl) T.b_range (pacons (pixK (K := K) (pcall C_sizes_of (by exact hr.mono (by first | decide | omega)) (pacons (pv 0) panil)) (pv 1)) panil)) (pgname (i := 6) sc__sorted_axis.nd) (psscut (psif (ptcmp (opEqK (K := K) (by exact hr.units)) (pv 1) pinT (nomark _)) (pssone (psset 7 sc__sorted_axis.nd (ptup (pacons (pixK (K := K) (pv 3) (pv 6)) (pacons (pcallTy (cTupleK (K := K)) (by rfl) T.b_tuple (by decide +kernel) (pacons (plc2 [9] rfl sc__sorted_axis.nd (piseqK (K := K) (pixK (K := K) (pv 2) pinT)) (blkOk_by (own := [("row", 8), ("column", 9)]) (N := ["table", "owner", "orders", "weights", "cells", "keyed", "index", "part", "row", "column", "chance", "_"]) (sc := defScope s__sorted_axis) (by decide +kernel)) (tgName (by decide)) (by decide) (tgName (by decide)) (fun _ _ _ _ _ => (pg_name (i := 8) sc__sorted_axis.nd rfl (by first | exact Or.inl rfl | exact Or.inr rfl))) (fun _ _ _ _ _ => ptsnil) (fun _ _ _ _ _ => (piseqK (K := K) (pixK (K := K) (pv 2) pinT))) (fun _ _ _ _ _ => (pg_name (i := 9) sc__sorted_axis.nd rfl (by first | exact Or.inl rfl | exact Or.inr rfl))) (fun _ _ _ _ _ => ptsnil) (fun _ _ _ _ _ => (pixK (K := K) (pixK (K := K) (pixK (K := K) (pv 4) (pv 8)) (pv 9)) (pv 6)))) panil)) panil))))) (pssone (psif (ptcmp (opEqK (K := K) (by exact hr.units)) (pv 1) pinT (nomark _)) (pssone (psset 7 sc__sorted_axis.nd (pcallTy (cTupleK (K := K)) (by rfl) T.b_tuple (by decide +kernel) (pacons (plc2 [10] rfl sc__sorted_axis.nd (piseqK (K := K) (pixK (K := K) (pv 2) pinT)) (blkOk_by (own := [("column", 9), ("chance", 10)]) (N := ["table", "owner", "orders", "weights", "cells", "keyed", "index", "part", "row", "column", "chance", "_"]) (sc := defScope s__sorted_axis) (by decide +kernel)) (tgName (by decide)) (by decide) (tgName (by decide)) (fun _ _ _ _ _ => (pg_name (i := 9) sc__sorted_axis.nd rfl (by first | exact Or.inl rfl | exact Or.inr rfl))) (fun _ _ _ _ _ => ptsnil) (fun _ _ _ _ _ => (piseqK (K := K) (pixK (K := K) (pv 2) pinT))) (fun _ _ _ _ _ => (pg_name (i := 10) sc__sorted_axis.nd rfl (by first | exact Or.inl rfl | exact Or.inr rfl))) (fun _ _ _ _ _ => ptsnil) (fun _ _ _ _ _ => (pixK (K := K) (pixK (K := K) (pixK (K := K) (pv 4) (pv 6)) (pv 9)) (pv 10)))) panil)))) (pssone (psset 7 sc__sorted_axis.nd (pcallTy (cTupleK (K := K)) (by rfl) T.b_tuple (by decide +kernel) (pacons (plc2 [10] rfl sc__sorted_axis.nd (piseqK (K := K) (pixK (K := K) (pv 2) pinT)) (blkOk_by (own := [("row", 8), ("chance", 10)]) (N := ["table", "owner", "orders", "weights", "cells", "keyed", "index", "part", "row", "column", "chance", "_"]) (sc := defScope s__sorted_axis) (by decide +kernel)) (tgName (by decide)) (by decide) (tgName (by decide)) (fun _ _ _ _ _ => (pg_name (i := 8) sc__sorted_axis.nd rfl (by first | exact Or.inl rfl | exact Or.inr rfl))) (fun _ _ _ _ _ => ptsnil) (fun _ _ _ _ _ => (piseqK (K := K) (pixK (K := K) (pv 2) pinT))) (fun _ _ _ _ _ => (pg_name (i := 10) sc__sorted_axis.nd rfl (by first | exact Or.inl rfl | exact Or.inr rfl))) (fun _ _ _ _ _ => ptsnil) (fun _ _ _ _ _ => (pixK (K := K) (pixK (K := K) (pixK (K := K) (pv 4) (pv 8)) (pv 6)) (pv 10)))) panil)))))))
      (pssone (psexpr (pbmK (K := K) PySem.F.plainAttrs_list PySem.F.slot_list_append PySem.F.type_list_append mAppend (pv 5) (pacons (ptup (pacons (pv 7) (pacons (pv 6) panil))) panil))))))
      (pssone (psret (pcallTy (cTupleK (K := K)) (by rfl) T.b_tuple (by decide +kernel) (pacons (plcP  rfl sc__sorted_axis.nd (piseqK (K := K) (pcallB (cSortDK (K := K) (by exact hr.units)) (by rfl) T.b_sorted (by decide +kernel) (pacons (pv 5) panil))) (blkOk_by (own := [("_", 11), ("index", 6)]) (N := ["table", "owner", "orders", "weights", "cells", "keyed", "index", "part", "row", "column", "chance", "_"]) (sc := defScope s__sorted_axis) (by decide +kernel)) (tgTup (n := 2) (tgsCons (tgName (by decide)) (tgsCons (tgName (by decide)) tgsNil))) (fun _ _ _ _ _ => (pg_tup rfl (pgs_cons (pg_name (i := 11) sc__sorted_axis.nd rfl (by first | exact Or.inl rfl | exact Or.inr rfl)) (pgs_cons (pg_name (i := 6) sc__sorted_axis.nd rfl (by first | exact Or.inl rfl | exact Or.inr rfl)) pgs_nil)))) (fun _ _ _ _ _ => (pv 6))) panil))))))), fun vs M Q Ep h => ?_⟩)
  obtain ⟨n0, n1, n2, W, C, o, l, L, P, rfl, ho, hl, hL, g1, b0, b1, b2, k⟩ := h
  have h0 : Hd [] M M [] := .start
  have hat := sel_at (n0 := n0) (n1 := n1) (n2 := n2) ho
  have hsel := sel_le (o := o) b0 b1 b2
  walk_at "go"
  refine ald h0 fun kd hkd h0 => ?_
  replace h0 := h0 (.lst [])
  walk_at "on"
  refine ⟨n0, n1, n2, W, C, rfl, by omega, ?_⟩
  walk_at "on"
  refine ⟨by omega, ?_⟩
  refine ⟨fun i σ M' => ∃ w6 w7 : Option PV, σ = [some (tab n0 n1 n2 W C), some (.int (o : Int)), some (.ref l), some (tabW n0 W), some (tabF n0 n1 n2 C), some (.ref kd), w6, w7, none, none, none, none] ∧ Hd [] M M' [(kd, .lst (mk i fun x => .tup [partP n0 n1 n2 W C P o x, .int (x : Int)]))], ⟨_, _, by walk_at "subs", .refl _, _, _, rfl, h0⟩, ?_, ?_, ?_⟩
  · intros; trivial
  · clear h0 hkd
    rintro i x σ M1 hx ⟨w6, w7, rfl, h0⟩
    obtain ⟨hi, rfl⟩ := rng_get hx
    have hi : i < sel n0 n1 n2 o := by omega
    rw [show (0 : Int) + (i : Int) = (i : Int) by omega]
    walk_at "on"
    refine ⟨fun σ M' => σ = [some (tab n0 n1 n2 W C), some (.int (o : Int)), some (.ref l), some (tabW n0 W), some (tabF n0 n1 n2 C), some (.ref kd), some (.int (i : Int)), some (partP n0 n1 n2 W C P o i), none, none, none, none] ∧ Hd [] M M' [(kd, .lst (mk i fun x => .tup [partP n0 n1 n2 W C P o x, .int (x : Int)]))], ?_, ?_⟩
    · walk_at "on"
      refine br_dec (fun h => ?_) (fun h => ?_)
      · have : o = 0 := by omega
        subst this
        have hi : i < n0 := hi
        obtain ⟨l1, r1⟩ := hL 1 (by decide) (by decide)
        obtain ⟨l2, r2⟩ := hL 2 (by decide) (by decide)
        have l1 : L[1]? = some (ordv n1 (P 1)) := l1
        have l2 : L[2]? = some (ordv n2 (P 2)) := l2
        have r1 : ∀ x, x < n1 → P 1 x < n1 := r1
        have r2 : ∀ x, x < n2 → P 2 x < n2 := r2
        have a1 := at_of l1
        have a2 := at_of l2
        rw [partP_0]
        have aw := at_mk (f := fun c => PV.int (W c)) hi
        walk_at "on"
        refine ald h0 fun D hD h0 => ?_
        replace h0 := h0 (.lst [])
        refine ⟨fun x acc M' => acc = ((List.range x).flatMap fun x => mk n2 fun y => PV.str (C (P 1 x) (P 2 y) i)) ∧ Hd [] M M' [(D, .lst acc), (kd, .lst (mk i fun x => .tup [partP n0 n1 n2 W C P 0 x, .int (x : Int)]))], ⟨_, .refl _, rfl, h0⟩, fun _ _ _ _ => trivial, ?_, ?_⟩
        · clear h0
          rintro x v acc M2 hv ⟨rfl, h0⟩
          obtain ⟨hx, rfl⟩ := mk_get hv
          refine ⟨_, rfl, ?_⟩
          walk_at "on"
          have fl : x * n2 ≤ 40 * 40 := Nat.mul_le_mul (by omega) (by omega)
          refine ⟨fun y acc M' => acc = ((List.range x).flatMap fun x => mk n2 fun y => PV.str (C (P 1 x) (P 2 y) i)) ++ mk y (fun y => PV.str (C (P 1 x) (P 2 y) i)) ∧ Hd [] M M' [(D, .lst acc), (kd, .lst (mk i fun x => .tup [partP n0 n1 n2 W C P 0 x, .int (x : Int)]))], ⟨_, .refl _, by rw [mk_zero, List.append_nil], h0⟩, fun _ _ _ _ => trivial, ?_, ?_⟩
          · clear h0
            rintro y v acc M3 hv ⟨rfl, h0⟩
            obtain ⟨hy, rfl⟩ := mk_get hv
            have q1 := at_mk (f := fun i => PV.tup (mk n2 fun j => .tup (mk n0 fun c => .str (C i j c)))) (i := (P 1 x)) (n := n1) (by first | exact hi | exact r1 _ hx | exact r2 _ hy)
            have q2 := at_mk (f := fun j => PV.tup (mk n0 fun c => .str (C (P 1 x) j c))) (i := (P 2 y)) (n := n2) (by first | exact hi | exact r1 _ hx | exact r2 _ hy)
            have q3 := at_mk (f := fun c => PV.str (C (P 1 x) (P 2 y) c)) (i := i) (n := n0) (by first | exact hi | exact r1 _ hx | exact r2 _ hy)
            refine ⟨_, rfl, ?_⟩
            walk_at "on"
            refine ⟨h0.get 0 rfl, by rw [List.length_append, flS_len, mk_len, sizeLine_eq]; omega, _, .refl _, ?_, h0.up0⟩
            rw [mk_succ, List.append_assoc]
          · clear h0
            rintro acc M3 ⟨rfl, h0⟩
            rw [mk_len] at h0 ⊢
            refine ⟨_, .refl _, ?_, h0⟩
            rw [flS_snoc]
        · clear h0
          rintro acc M2 ⟨rfl, h0⟩
          rw [mk_len] at h0
          walk_at "on"
          exact ⟨_, _, by walk_at "subs", .refl _, rfl, h0.less (by simp)⟩
      · walk_at "on"
        refine br_dec (fun h => ?_) (fun h => ?_)
        · have : o = 1 := by omega
          subst this
          have hi : i < n1 := hi
          obtain ⟨l1, r1⟩ := hL 2 (by decide) (by decide)
          obtain ⟨l2, r2⟩ := hL 0 (by decide) (by decide)
          have l1 : L[2]? = some (ordv n2 (P 2)) := l1
          have l2 : L[0]? = some (ordv n0 (P 0)) := l2
          have r1 : ∀ x, x < n2 → P 2 x < n2 := r1
          have r2 : ∀ x, x < n0 → P 0 x < n0 := r2
          have a1 := at_of l1
          have a2 := at_of l2
          rw [partP_1]
          walk_at "on"
          refine ald h0 fun D hD h0 => ?_
          replace h0 := h0 (.lst [])
          refine ⟨fun x acc M' => acc = ((List.range x).flatMap fun x => mk n0 fun y => PV.str (C i (P 2 x) (P 0 y))) ∧ Hd [] M M' [(D, .lst acc), (kd, .lst (mk i fun x => .tup [partP n0 n1 n2 W C P 1 x, .int (x : Int)]))], ⟨_, .refl _, rfl, h0⟩, fun _ _ _ _ => trivial, ?_, ?_⟩
          · clear h0
            rintro x v acc M2 hv ⟨rfl, h0⟩
            obtain ⟨hx, rfl⟩ := mk_get hv
            refine ⟨_, rfl, ?_⟩
            walk_at "on"
            have fl : x * n0 ≤ 40 * 40 := Nat.mul_le_mul (by omega) (by omega)
            refine ⟨fun y acc M' => acc = ((List.range x).flatMap fun x => mk n0 fun y => PV.str (C i (P 2 x) (P 0 y))) ++ mk y (fun y => PV.str (C i (P 2 x) (P 0 y))) ∧ Hd [] M M' [(D, .lst acc), (kd, .lst (mk i fun x => .tup [partP n0 n1 n2 W C P 1 x, .int (x : Int)]))], ⟨_, .refl _, by rw [mk_zero, List.append_nil], h0⟩, fun _ _ _ _ => trivial, ?_, ?_⟩
            · clear h0
              rintro y v acc M3 hv ⟨rfl, h0⟩
              obtain ⟨hy, rfl⟩ := mk_get hv
              have q1 := at_mk (f := fun i => PV.tup (mk n2 fun j => .tup (mk n0 fun c => .str (C i j c)))) (i := i) (n := n1) (by first | exact hi | exact r1 _ hx | exact r2 _ hy)
              have q2 := at_mk (f := fun j => PV.tup (mk n0 fun c => .str (C i j c))) (i := (P 2 x)) (n := n2) (by first | exact hi | exact r1 _ hx | exact r2 _ hy)
              have q3 := at_mk (f := fun c => PV.str (C i (P 2 x) c)) (i := (P 0 y)) (n := n0) (by first | exact hi | exact r1 _ hx | exact r2 _ hy)
              refine ⟨_, rfl, ?_⟩
              walk_at "on"
              refine ⟨h0.get 0 rfl, by rw [List.length_append, flS_len, mk_len, sizeLine_eq]; omega, _, .refl _, ?_, h0.up0⟩
              rw [mk_succ, List.append_assoc]
            · clear h0
              rintro acc M3 ⟨rfl, h0⟩
              rw [mk_len] at h0 ⊢
              refine ⟨_, .refl _, ?_, h0⟩
              rw [flS_snoc]
          · clear h0
            rintro acc M2 ⟨rfl, h0⟩
            rw [mk_len] at h0
            walk_at "on"
            exact ⟨_, _, by walk_at "subs", .refl _, rfl, h0.less (by simp)⟩
        · have : o = 2 := by omega
          subst this
          have hi : i < n2 := hi
          obtain ⟨l1, r1⟩ := hL 1 (by decide) (by decide)
          obtain ⟨l2, r2⟩ := hL 0 (by decide) (by decide)
          have l1 : L[1]? = some (ordv n1 (P 1)) := l1
          have l2 : L[0]? = some (ordv n0 (P 0)) := l2
          have r1 : ∀ x, x < n1 → P 1 x < n1 := r1
          have r2 : ∀ x, x < n0 → P 0 x < n0 := r2
          have a1 := at_of l1
          have a2 := at_of l2
          rw [partP_2]
          walk_at "on"
          refine ald h0 fun D hD h0 => ?_
          replace h0 := h0 (.lst [])
          refine ⟨fun x acc M' => acc = ((List.range x).flatMap fun x => mk n0 fun y => PV.str (C (P 1 x) i (P 0 y))) ∧ Hd [] M M' [(D, .lst acc), (kd, .lst (mk i fun x => .tup [partP n0 n1 n2 W C P 2 x, .int (x : Int)]))], ⟨_, .refl _, rfl, h0⟩, fun _ _ _ _ => trivial, ?_, ?_⟩
          · clear h0
            rintro x v acc M2 hv ⟨rfl, h0⟩
            obtain ⟨hx, rfl⟩ := mk_get hv
            refine ⟨_, rfl, ?_⟩
            walk_at "on"
            have fl : x * n0 ≤ 40 * 40 := Nat.mul_le_mul (by omega) (by omega)
            refine ⟨fun y acc M' => acc = ((List.range x).flatMap fun x => mk n0 fun y => PV.str (C (P 1 x) i (P 0 y))) ++ mk y (fun y => PV.str (C (P 1 x) i (P 0 y))) ∧ Hd [] M M' [(D, .lst acc), (kd, .lst (mk i fun x => .tup [partP n0 n1 n2 W C P 2 x, .int (x : Int)]))], ⟨_, .refl _, by rw [mk_zero, List.append_nil], h0⟩, fun _ _ _ _ => trivial, ?_, ?_⟩
            · clear h0
              rintro y v acc M3 hv ⟨rfl, h0⟩
              obtain ⟨hy, rfl⟩ := mk_get hv
              have q1 := at_mk (f := fun i => PV.tup (mk n2 fun j => .tup (mk n0 fun c => .str (C i j c)))) (i := (P 1 x)) (n := n1) (by first | exact hi | exact r1 _ hx | exact r2 _ hy)
              have q2 := at_mk (f := fun j => PV.tup (mk n0 fun c => .str (C (P 1 x) j c))) (i := i) (n := n2) (by first | exact hi | exact r1 _ hx | exact r2 _ hy)
              have q3 := at_mk (f := fun c => PV.str (C (P 1 x) i c)) (i := (P 0 y)) (n := n0) (by first | exact hi | exact r1 _ hx | exact r2 _ hy)
              refine ⟨_, rfl, ?_⟩
              walk_at "on"
              refine ⟨h0.get 0 rfl, by rw [List.length_append, flS_len, mk_len, sizeLine_eq]; omega, _, .refl _, ?_, h0.up0⟩
              rw [mk_succ, List.append_assoc]
            · clear h0
              rintro acc M3 ⟨rfl, h0⟩
              rw [mk_len] at h0 ⊢
              refine ⟨_, .refl _, ?_, h0⟩
              rw [flS_snoc]
          · clear h0
            rintro acc M2 ⟨rfl, h0⟩
            rw [mk_len] at h0
            walk_at "on"
            exact ⟨_, _, by walk_at "subs", .refl _, rfl, h0.less (by simp)⟩
    · clear h0
      rintro σ M2 ⟨rfl, h0⟩
      walk_at "on"
      refine ⟨_, h0.get 0 rfl, by rw [mk_len, sizeLine_eq]; omega, ?_⟩
      walk_at "on"
      refine ⟨_, _, by walk_at "subs", .refl _, _, _, rfl, ?_⟩
      rw [mk_succ]
      exact h0.up0
  · clear h0 hkd
    rintro σ M1 ⟨w6, w7, rfl, h0⟩
    rw [rng_len] at h0
    rw [show (((sel n0 n1 n2 o : Nat) : Int).toNat) = sel n0 n1 n2 o by omega] at h0
    have b0' : n0 ≤ 1000 := by omega
    have b1' : n1 ≤ 1000 := by omega
    have b2' : n2 ≤ 1000 := by omega
    obtain ⟨p, q, hp, eS, srt⟩ := sort_axis (n := sel n0 n1 n2 o) (m := 3) (part := partP n0 n1 n2 W C P o) (fun x y _ _ => part_al x y) fun x _ => part_tx b0' b1' b2' x
    walk_at "on"
    have hpu : ∀ x ∈ mk (sel n0 n1 n2 o) fun x => PV.tup [partP n0 n1 n2 W C P o x, .int (x : Int)], PureD 40 x := fun x hx => by
      obtain ⟨i, _, rfl⟩ := mk_mem.mp hx
      exact ((tx_2 ((part_tx b0' b1' b2' i)) (.int _)).more (by decide)).pure
    have hal : ∀ x y : Nat, alV (PV.tup [partP n0 n1 n2 W C P o x, .int (x : Int)]) (PV.tup [partP n0 n1 n2 W C P o y, .int (y : Int)]) := fun x y => al_2 (part_al x y) (al_int _ _)
    refine ⟨hpu, ?_, ?_, ?_⟩
    · unfold PL.mk
      rw [List.map_map]
      exact PySem.W.AllAlike.of (enc := fun x : Nat => toD (PV.tup [partP n0 n1 n2 W C P o x, .int (x : Int)])) fun a b => hal a b
    · unfold PL.mk
      rw [List.map_map]
      exact PySem.W.Sortable.tuples (enc := fun x : Nat => toD (PV.tup [partP n0 n1 n2 W C P o x, .int (x : Int)])) fun r => ⟨_, _, rfl⟩
    rw [eS]
    refine ald h0 fun sp hsp h0 => ?_
    replace h0 := h0 (.lst (mk (sel n0 n1 n2 o) fun k => .tup [partP n0 n1 n2 W C P o (p k), .int ((p k : Nat) : Int)]))
    walk_at "on"
    refine ⟨fun k => .int ((p k : Nat) : Int), by rw [mk_len]; omega, fun M2 sb => .inl (sb _ _ (h0.get 0 rfl)), fun i x M2 Q2 hx sb k2 => ?_, fun Dl l2 hD hl2 => ?_⟩
    · obtain ⟨hi, rfl⟩ := mk_get hx
      refine ⟨_, rfl, ?_⟩
      walk_at "on"
      exact k2 _ (.refl _)
    · rw [mk_len] at hl2
      subst hl2
      have h1 := h0.new (o := .lst (mk (sel n0 n1 n2 o) fun k => .int ((p k : Nat) : Int))) hD
      walk_at "on"
      exact ⟨_, .refl _, k p q _ hp (fun s t hs => part_least ho b0' b1' b2' hp srt hs) h1.sub⟩

abbrev ord3 (n0 n1 n2 : Nat) (P : Nat → Nat → Nat) : PV := .tup [ordv n0 (P 0), ordv n1 (P 1), ordv n2 (P 2)]
structure IV3 (n0 n1 n2 : Nat) (P R : Nat → Nat → Nat) : Prop where
  iv : ∀ k, k ≤ 2 → IV (sel n0 n1 n2 k) (P k) (R k)
def sp_least_arrangement (K : Kf) : PSpec := fun vs M Q _ => ∃ (n0 n1 n2 : Nat) (W : Nat → Int) (C : Nat → Nat → Nat → Str), vs = [tab n0 n1 n2 W C] ∧ 1 ≤ n0 ∧ 1 ≤ n1 ∧ 1 ≤ n2 ∧ n0 * n1 * n2 ≤ 32 ∧
  ∀ P R M', IV3 n0 n1 n2 P R → (∀ S T, IV3 n0 n1 n2 S T → ltV (arrP n0 n1 n2 W C S) (arrP n0 n1 n2 W C P) = false) → Sub M M' → Q (.tup [ord3 n0 n1 n2 P, arrP n0 n1 n2 W C P]) M'
theorem sp_least_arrangement_len {K : Kf} {vs : List PV} {M : PHp} {Q : PVK} {E : PXK} (h : sp_least_arrangement K vs M Q E) : vs.length = 1 := by
  obtain ⟨_, _, _, _, _, rfl, _⟩ := h; rfl
/-- the longest axis -/
theorem longest {n0 n1 n2 : Nat} (g0 : 1 ≤ n0) (g1 : 1 ≤ n1) (g2 : 1 ≤ n2) (h : n0 * n1 * n2 ≤ 32) {m : Int} (hm : m ∈ [(n0 : Int), (n1 : Int), (n2 : Int)]) (hx : ∀ y ∈ [(n0 : Int), (n1 : Int), (n2 : Int)], y ≤ m) :
    [(n0 : Int), (n1 : Int), (n2 : Int)].idxOf m ≤ 2 ∧ ∀ k, k ≤ 2 → k ≠ [(n0 : Int), (n1 : Int), (n2 : Int)].idxOf m → sel n0 n1 n2 k ≤ 5 := by
  have i1 := List.idxOf_lt_length_of_mem hm
  have i2 := List.getElem_idxOf i1
  generalize [(n0 : Int), (n1 : Int), (n2 : Int)].idxOf m = o at i1 i2
  have i1 : o < 3 := i1
  have x0 := hx n0 (by simp)
  have x1 := hx n1 (by simp)
  have x2 := hx n2 (by simp)
  have sq : ∀ a b c : Nat, 1 ≤ c → a ≤ b → a * b * c ≤ 32 → a ≤ 5 := fun a b c hc hab hp => by
    apply Classical.byContradiction
    intro q
    have q1 : 6 * 6 ≤ a * b := Nat.mul_le_mul (by omega) (by omega)
    have q2 : a * b * 1 ≤ a * b * c := Nat.mul_le_mul_left _ hc
    omega
  refine ⟨by omega, fun k hk hne => ?_⟩
  have p1 : n0 * n1 * n2 = n0 * n2 * n1 := by rw [Nat.mul_assoc, Nat.mul_comm n1 n2, ← Nat.mul_assoc]
  have p2 : n0 * n1 * n2 = n1 * n2 * n0 := by rw [Nat.mul_assoc, Nat.mul_comm]
  obtain rfl | rfl | rfl : o = 0 ∨ o = 1 ∨ o = 2 := by omega
  · have e : (n0 : Int) = m := i2
    obtain rfl | rfl : k = 1 ∨ k = 2 := by omega
    · exact sq n1 n0 n2 g2 (by omega) (by rw [Nat.mul_comm n1 n0]; exact h)
    · exact sq n2 n0 n1 g1 (by omega) (by rw [Nat.mul_comm n2 n0, ← p1]; exact h)
  · have e : (n1 : Int) = m := i2
    obtain rfl | rfl : k = 0 ∨ k = 2 := by omega
    · exact sq n0 n1 n2 g2 (by omega) h
    · exact sq n2 n1 n0 g0 (by omega) (by rw [Nat.mul_comm n2 n1, ← p2]; exact h)
  · have e : (n2 : Int) = m := i2
    obtain rfl | rfl : k = 0 ∨ k = 1 := by omega
    · exact sq n0 n2 n1 g1 (by omega) (by rw [← p1]; exact h)
    · exact sq n1 n2 n0 g0 (by omega) (by rw [← p2]; exact h)
theorem all32 {a b c : Nat} (g1 : 1 ≤ a) (g2 : 1 ≤ b) (g3 : 1 ≤ c) (h : a * b * c ≤ 32) : a ≤ 32 ∧ b ≤ 32 ∧ c ≤ 32 := by
  have h1 : a * 1 ≤ a * b := Nat.mul_le_mul_left _ g2
  have h2 : a * b * 1 ≤ a * b * c := Nat.mul_le_mul_left _ g3
  have h3 : 1 * b ≤ a * b := Nat.mul_le_mul_right _ g1
  have h4 : 1 * c ≤ a * b * c := Nat.mul_le_mul_right _ (Nat.mul_le_mul g1 g2)
  omega
/-- the lists of orders that are gone through -/
def chO (n0 n1 n2 o k : Nat) : List PV := if k = o then [.tup []] else (ordL (sel n0 n1 n2 k) (sel n0 n1 n2 k)).map pvO
theorem chO_at {n0 n1 n2 o k i : Nat} {x : PV} (h : (chO n0 n1 n2 o k)[i]? = some x) (hk : k ≠ o) (h6 : sel n0 n1 n2 k ≤ 6) : ∃ p q, IV (sel n0 n1 n2 k) p q ∧ x = ordv (sel n0 n1 n2 k) p := by
  unfold chO at h
  rw [if_neg hk, List.getElem?_map] at h
  cases e : (ordL (sel n0 n1 n2 k) (sel n0 n1 n2 k))[i]? with
  | none => rw [e] at h; cases h
  | some c =>
    rw [e] at h; cases h
    obtain ⟨p, q, hp, rfl⟩ := of_perm ((ordF h6).perm c (List.mem_of_getElem? e))
    exact ⟨p, q, hp, by show PV.tup (List.map PV.int (orI _ p)) = _; rw [orI, mk_map]⟩
theorem chO_in {n0 n1 n2 o k : Nat} {p q : Nat → Nat} (h : IV (sel n0 n1 n2 k) p q) : ∃ (i : Nat) (x : PV), (chO n0 n1 n2 o k)[i]? = some x ∧ (k ≠ o → x = ordv (sel n0 n1 n2 k) p) := by
  by_cases hk : k = o
  · exact ⟨0, .tup [], by unfold chO; rw [if_pos hk]; rfl, fun q => absurd hk q⟩
  · obtain ⟨i, hi⟩ := List.getElem?_of_mem (ord_in (iv_perm h))
    refine ⟨i, _, by unfold chO; rw [if_neg hk, List.getElem?_map, hi]; rfl, fun _ => ?_⟩
    show PV.tup (List.map PV.int (orI _ p)) = _
    rw [orI, mk_map]
theorem chO_len {n0 n1 n2 o k : Nat} (h6 : k ≠ o → sel n0 n1 n2 k ≤ 6) : (chO n0 n1 n2 o k).length ≤ 720 := by
  unfold chO
  split
  · simp
  · next h => rw [List.length_map, (ordF (h6 h)).len]; exact (ordF (h6 h)).le
def chR (n0 n1 n2 o : Nat) : Nat → List Addr → List (Addr × MO)
  | _, [] => []
  | k, g :: G => (g, .lst (chO n0 n1 n2 o k)) :: chR n0 n1 n2 o (k + 1) G
theorem chR_snoc {n0 n1 n2 o : Nat} {g : Addr} : ∀ {G : List Addr} {k : Nat}, chR n0 n1 n2 o k (G ++ [g]) = chR n0 n1 n2 o k G ++ [(g, .lst (chO n0 n1 n2 o (k + G.length)))]
  | [], k => rfl
  | a :: G, k => by
    rw [List.cons_append, chR, chR, chR_snoc, List.length_cons, show k + 1 + G.length = k + (G.length + 1) by omega]; rfl
def Dom (n0 n1 n2 : Nat) (W : Nat → Int) (C : Nat → Nat → Nat → Str) (o : Nat) (B x0 x1 x2 : PV) : Prop :=
  ∀ S T, IV3 n0 n1 n2 S T → (∀ k, k ≤ 2 → k ≠ o → sel x0 x1 x2 k = ordv (sel n0 n1 n2 k) (S k)) → ltV (arrP n0 n1 n2 W C S) B = false
def Vis (L0 L1 L2 : List PV) (i j l : Nat) (x0 x1 x2 : PV) : Prop := ∃ a b c : Nat, L0[a]? = some x0 ∧ L1[b]? = some x1 ∧ L2[c]? = some x2 ∧ (a < i ∨ (a = i ∧ (b < j ∨ (b = j ∧ c < l))))
def BestOk (n0 n1 n2 : Nat) (W : Nat → Int) (C : Nat → Nat → Nat → Str) (o : Nat) (bv : PV) (V : PV → PV → PV → Prop) : Prop :=
  (bv = .non ∧ ∀ x0 x1 x2, ¬ V x0 x1 x2) ∨ ∃ P R, IV3 n0 n1 n2 P R ∧ bv = .tup [arrP n0 n1 n2 W C P, ord3 n0 n1 n2 P] ∧ ∀ x0 x1 x2, V x0 x1 x2 → Dom n0 n1 n2 W C o (arrP n0 n1 n2 W C P) x0 x1 x2
theorem BestOk.less {n0 n1 n2 o : Nat} {W : Nat → Int} {C : Nat → Nat → Nat → Str} {bv : PV} {V V' : PV → PV → PV → Prop} (h : BestOk n0 n1 n2 W C o bv V) (s : ∀ x0 x1 x2, V' x0 x1 x2 → V x0 x1 x2) : BestOk n0 n1 n2 W C o bv V' := by
  rcases h with ⟨rfl, h⟩ | ⟨P, R, h1, h2, h3⟩
  · exact .inl ⟨rfl, fun x0 x1 x2 q => h _ _ _ (s _ _ _ q)⟩
  · exact .inr ⟨P, R, h1, h2, fun x0 x1 x2 q => h3 _ _ _ (s _ _ _ q)⟩
theorem Vis.next {L0 L1 L2 : List PV} {i j l : Nat} {x0 x1 x2 y0 y1 y2 : PV} (h0 : L0[i]? = some x0) (h1 : L1[j]? = some x1) (h2 : L2[l]? = some x2) (v : Vis L0 L1 L2 i j (l + 1) y0 y1 y2) : Vis L0 L1 L2 i j l y0 y1 y2 ∨ (y0 = x0 ∧ y1 = x1 ∧ y2 = x2) := by
  obtain ⟨a, b, c, e0, e1, e2, h⟩ := v
  rcases h with h | ⟨rfl, h | ⟨rfl, h⟩⟩
  · exact .inl ⟨a, b, c, e0, e1, e2, .inl h⟩
  · exact .inl ⟨a, b, c, e0, e1, e2, .inr ⟨rfl, .inl h⟩⟩
  · by_cases q : c < l
    · exact .inl ⟨a, b, c, e0, e1, e2, .inr ⟨rfl, .inr ⟨rfl, q⟩⟩⟩
    · have : c = l := by omega
      subst this
      rw [h0] at e0; rw [h1] at e1; rw [h2] at e2
      exact .inr ⟨(Option.some.inj e0).symm, (Option.some.inj e1).symm, (Option.some.inj e2).symm⟩
theorem Vis.up {L0 L1 L2 : List PV} {i j : Nat} {y0 y1 y2 : PV} (v : Vis L0 L1 L2 i (j + 1) 0 y0 y1 y2) : Vis L0 L1 L2 i j L2.length y0 y1 y2 := by
  obtain ⟨a, b, c, e0, e1, e2, h⟩ := v
  refine ⟨a, b, c, e0, e1, e2, ?_⟩
  have := lt_of_get e2
  omega
theorem Vis.up2 {L0 L1 L2 : List PV} {i : Nat} {y0 y1 y2 : PV} (v : Vis L0 L1 L2 (i + 1) 0 0 y0 y1 y2) : Vis L0 L1 L2 i L1.length 0 y0 y1 y2 := by
  obtain ⟨a, b, c, e0, e1, e2, h⟩ := v
  refine ⟨a, b, c, e0, e1, e2, ?_⟩
  have := lt_of_get e1
  omega
theorem fnd_al {n0 n1 n2 : Nat} {W : Nat → Int} {C : Nat → Nat → Nat → Str} {P S : Nat → Nat → Nat} : alV (ord3 n0 n1 n2 P) (ord3 n0 n1 n2 S) := alV_tup.mpr (alL_cons.mpr ⟨al_mk fun _ _ => al_int _ _, alL_cons.mpr ⟨al_mk fun _ _ => al_int _ _, alL_cons.mpr ⟨al_mk fun _ _ => al_int _ _, alL_of fun _ h => by cases h⟩⟩⟩)
theorem ord3_tx {k n0 n1 n2 : Nat} {P : Nat → Nat → Nat} (b0 : n0 ≤ 1000) (b1 : n1 ≤ 1000) (b2 : n2 ≤ 1000) : TxtD (k + 3) (ord3 n0 n1 n2 P) := .tup (by show 3 ≤ 16777216; decide) fun x hx => by
  rcases List.mem_cons.mp hx with rfl | hx
  · exact tx_mk b0 fun _ => .int _
  rcases List.mem_cons.mp hx with rfl | hx
  · exact tx_mk b1 fun _ => .int _
  rw [List.mem_singleton.mp hx]
  exact tx_mk b2 fun _ => .int _
theorem fnd_lt {n0 n1 n2 : Nat} {W : Nat → Int} {C : Nat → Nat → Nat → Str} {P S : Nat → Nat → Nat} (b0 : n0 ≤ 1000) (b1 : n1 ≤ 1000) (b2 : n2 ≤ 1000) : ltV (.tup [arrP n0 n1 n2 W C P, ord3 n0 n1 n2 P]) (.tup [arrP n0 n1 n2 W C S, ord3 n0 n1 n2 S]) = true ↔
    ltV (arrP n0 n1 n2 W C P) (arrP n0 n1 n2 W C S) = true ∨ (arrP n0 n1 n2 W C P = arrP n0 n1 n2 W C S ∧ ltV (ord3 n0 n1 n2 P) (ord3 n0 n1 n2 S) = true) :=
  lt_2 (k := 5) al_tab (fnd_al (W := W) (C := C)) (tx_tab (k := 0) b0 b1 b2) (ord3_tx (k := 2) b0 b1 b2) (tx_tab (k := 0) b0 b1 b2) (ord3_tx (k := 2) b0 b1 b2)
theorem BestOk.take {n0 n1 n2 o : Nat} {W : Nat → Int} {C : Nat → Nat → Nat → Str} {bv : PV} {V V' : PV → PV → PV → Prop} {P R : Nat → Nat → Nat} (h : BestOk n0 n1 n2 W C o bv V) (hP : IV3 n0 n1 n2 P R) {x0 x1 x2 : PV} (d : Dom n0 n1 n2 W C o (arrP n0 n1 n2 W C P) x0 x1 x2)
    (s : ∀ y0 y1 y2, V' y0 y1 y2 → V y0 y1 y2 ∨ (y0 = x0 ∧ y1 = x1 ∧ y2 = x2)) (lt : ∀ S, bv = .tup [arrP n0 n1 n2 W C S, ord3 n0 n1 n2 S] → ltV (arrP n0 n1 n2 W C P) (arrP n0 n1 n2 W C S) = true ∨ arrP n0 n1 n2 W C P = arrP n0 n1 n2 W C S) :
    BestOk n0 n1 n2 W C o (.tup [arrP n0 n1 n2 W C P, ord3 n0 n1 n2 P]) V' := by
  refine .inr ⟨P, R, hP, rfl, fun y0 y1 y2 hv => ?_⟩
  rcases s _ _ _ hv with q | ⟨rfl, rfl, rfl⟩
  · rcases h with ⟨_, h⟩ | ⟨S, T, h1, h2, h3⟩
    · exact absurd q (h _ _ _)
    · intro S' T' hS hx
      have := h3 _ _ _ q S' T' hS hx
      rcases lt S h2 with z | z
      · cases e : ltV (arrP n0 n1 n2 W C S') (arrP n0 n1 n2 W C P) with
        | false => rfl
        | true => rw [ltV_trans e z] at this; cases this
      · rw [z]; exact this
  · exact d
theorem BestOk.stay {n0 n1 n2 o : Nat} {W : Nat → Int} {C : Nat → Nat → Nat → Str} {V V' : PV → PV → PV → Prop} {P R : Nat → Nat → Nat} {F : PV} (hP : IV3 n0 n1 n2 P R) (h : ∀ x0 x1 x2, V x0 x1 x2 → Dom n0 n1 n2 W C o (arrP n0 n1 n2 W C P) x0 x1 x2) {x0 x1 x2 : PV} (d : Dom n0 n1 n2 W C o F x0 x1 x2)
    (s : ∀ y0 y1 y2, V' y0 y1 y2 → V y0 y1 y2 ∨ (y0 = x0 ∧ y1 = x1 ∧ y2 = x2)) (lt : ltV F (arrP n0 n1 n2 W C P) = false) :
    BestOk n0 n1 n2 W C o (.tup [arrP n0 n1 n2 W C P, ord3 n0 n1 n2 P]) V' := by
  refine .inr ⟨P, R, hP, rfl, fun y0 y1 y2 hv => ?_⟩
  rcases s _ _ _ hv with q | ⟨rfl, rfl, rfl⟩
  · exact h _ _ _ q
  · intro S' T' hS hx
    have := d S' T' hS hx
    cases e : ltV (arrP n0 n1 n2 W C S') (arrP n0 n1 n2 W C P) with
    | false => rfl
    | true =>
      rcases ltV_neg (y := F) e with z | z
      · rw [this] at z; cases z
      · rw [lt] at z; cases z
abbrev lsC (D c0 c1 c2 : Addr) (L0 L1 L2 : List PV) : List (Addr × MO) := [(D, .lst [.ref c0, .ref c1, .ref c2]), (c0, .lst L0), (c1, .lst L1), (c2, .lst L2)]
theorem ordv_inj {n : Nat} {p q : Nat → Nat} (h : ordv n p = ordv n q) : ∀ k, k < n → p k = q k := fun k hk => by
  have := PV.int.inj (mk_inj (PV.tup.inj h) k hk)
  omega
theorem Dom.of {n0 n1 n2 o : Nat} {W : Nat → Int} {C : Nat → Nat → Nat → Str} {P : Nat → Nat → Nat} {p : Nat → Nat} {x0 x1 x2 : PV} (ho : o ≤ 2) (hx : ∀ k, k ≤ 2 → k ≠ o → sel x0 x1 x2 k = ordv (sel n0 n1 n2 k) (P k))
    (srt : ∀ s t, IV (sel n0 n1 n2 o) s t → ltV (arrP n0 n1 n2 W C (updP P o s)) (arrP n0 n1 n2 W C (updP P o p)) = false) : Dom n0 n1 n2 W C o (arrP n0 n1 n2 W C (updP P o p)) x0 x1 x2 := by
  intro S T hS h
  have e : ∀ k, k ≤ 2 → ∀ i, i < sel n0 n1 n2 k → S k i = updP P o (S o) k i := fun k hk i hi => by
    by_cases q : k = o
    · subst q; rw [updP_same]
    · rw [updP_ne q]
      exact ordv_inj ((h k hk q).symm.trans (hx k hk q)) i hi
  have e2 : arrP n0 n1 n2 W C S = arrP n0 n1 n2 W C (updP P o (S o)) := tab_congr (fun c hc => by rw [e 0 (by decide) c hc]) fun i j c hi hj hc => by rw [e 0 (by decide) c hc, e 1 (by decide) i hi, e 2 (by decide) j hj]
  rw [e2]
  exact srt _ _ (hS.iv o ho)
theorem sel_map {α β : Type} {f : α → β} {x y z : α} {k : Nat} : f (sel x y z k) = sel (f x) (f y) (f z) k := by unfold sel; split <;> rfl

theorem ok_least_arrangement {P : Program} {w : World} {K : Kf} {mg : Str → Option Value} {base : Heap} (h0 : Here K mg "least_arrangement" s_least_arrangement ["table"]) (T : Blt mg) (Su : Sure P base) (C__sorted_axis : Callee P w K mg base 35 "_sorted_axis" ["table", "owner", "orders"] (sp__sorted_axis K)) (C_all_orders : Callee P w K mg base 34 "all_orders" ["count"] (sp_all_orders K)) (C_arranged : Callee P w K mg base 34 "arranged" ["table", "orders"] (sp_arranged K)) (C_sizes_of : Callee P w K mg base 34 "sizes_of" ["table"] (sp_sizes_of K)) : Callee P w K mg base 36 "least_arrangement" ["table"] (sp_least_arrangement K) := by
  refine ok_of h0 sc_least_arrangement (fun vs M Q E h => sp_least_arrangement_len h) (fun f cdv A outer s H E hr => ⟨_, (psscons (psset 1 sc_least_arrangement.nd (pcall C_sizes_of (by exact hr.mono (by first | decide | omega)) (pacons (pv 0) panil)))
      (psscons (psset 2 sc_least_arrangement.nd (ptm PySem.F.slot_tuple_index PySem.F.type_tuple_index mIdxT (pv 1) (pacons (pcallB (cMaxK (K := K) rfl) (by rfl) T.b_max (by decide +kernel) (pacons (pv 1) panil)) panil)))
      (psscons (pssetlc1 3 10 rfl sc_least_arrangement.nd rfl (sw_true rfl rfl rfl (by decide +kernel)) (pirng1 (by rfl) T.b_range (pacons pinT panil)) (blkOk_by (own := [("owner", 10)]) (N := ["table", "sizes", "longest", "choices", "best", "chance", "first", "second", "orders", "found", "owner"]) (sc := defScope s_least_arrangement) (by decide +kernel)) (by decide) (fun _ _ _ _ _ => pg_name (i := 10) sc_least_arrangement.nd rfl (Or.inl rfl)) (fun _ _ _ _ _ => ptsnil) (fun _ _ _ _ _ => (pifx (ptcmp (opEqK (K := K) (by exact hr.units)) (pv 10) (pv 2) (nomark _)) (plst (pacons (ptup panil) panil)) (pcall C_all_orders (by exact hr.mono (by first | decide | omega)) (pacons (pixK (K := K) (pv 1) (pv 10)) panil)))))
      (psscons (psset 4 sc_least_arrangement.nd pnon)
      (psscons (psfor PassesOwn.never rfl (piseqK (K := K) (pixK (K := K) (pv 3) pinT)) (pgname (i := 5) sc_least_arrangement.nd) (pssone (psfor PassesOwn.never rfl (piseqK (K := K) (pixK (K := K) (pv 3) pinT)) (pgname (i := 6) sc_least_arrangement.nd) (pssone (psfor PassesOwn.never rfl (piseqK (K := K) (pixK (K := K) (pv 3) pinT)) (pgname (i := 7) sc_least_arrangement.nd) (psscons (psset 8 sc_least_arrangement.nd (plst (pacons (pv 5) (pacons (pv 6) (pacons (pv 7) panil)))))
      (psscons (psasg (pcall C__sorted_axis (by exact hr.mono (by first | decide | omega)) (pacons (pv 0) (pacons (pv 2) (pacons (pv 8) panil)))) (pgsub (pv 8) (pv 2)))
      (psscons (psset 9 sc_least_arrangement.nd (ptup (pacons (pcall C_arranged (by exact hr.mono (by first | decide | omega)) (pacons (pv 0) (pacons (pv 8) panil))) (pacons (pcallTy (cTupleK (K := K)) (by rfl) T.b_tuple (by decide +kernel) (pacons (pv 8) panil)) panil))))
      (pssone (psif (PW.pt (pwor (ptcmp opIsN (pv 4) pnon (nomark _)) (pwor1 (ptcmp (opLtD (K := K) (by exact hr.units)) (pv 9) (pv 4) (nomark _))))) (pssone (psset 4 sc_least_arrangement.nd (pv 9))) pssnil))))))))))
      (pssone (psret (ptup (pacons (pixK (K := K) (pv 4) pinT) (pacons (pixK (K := K) (pv 4) pinT) panil)))))))))), fun vs M Q Ep h => ?_⟩)
  obtain ⟨n0, n1, n2, W, C, rfl, g0, g1, g2, hp, k⟩ := h
  obtain ⟨b0, b1, b2⟩ := all32 g0 g1 g2 hp
  have h0 : Hd [] M M [] := .start
  walk_at "go"
  refine ⟨n0, n1, n2, W, C, rfl, by omega, ?_⟩
  walk_at "on"
  refine ⟨[(n0 : Int), (n1 : Int), (n2 : Int)], rfl, by simp, fun m hm hx => ?_⟩
  walk_at "on"
  refine ⟨[(n0 : Int), (n1 : Int), (n2 : Int)], rfl, hm, ?_⟩
  obtain ⟨ho, hs⟩ := longest g0 g1 g2 hp hm hx
  generalize [(n0 : Int), (n1 : Int), (n2 : Int)].idxOf m = o at ho hs
  walk_at "on"
  refine ⟨by decide, ?_⟩
  refine ald h0 fun D hD h0 => ?_
  replace h0 := h0 (.lst [])
  refine ⟨fun i acc M' => ∃ G : List Addr, acc = G.map PV.ref ∧ G.length = i ∧ Hd [] M M' ((D, .lst acc) :: chR n0 n1 n2 o 0 G), ⟨_, .refl _, [], rfl, rfl, h0⟩, fun _ _ _ _ => trivial, ?_, ?_⟩
  · clear h0
    rintro i x acc M1 hx ⟨G, rfl, gl, h0⟩
    obtain ⟨hi, rfl⟩ := rng_get hx
    have hi : i < 3 := hi
    rw [show (0 : Int) + (i : Int) = (i : Int) by omega]
    have step : ∀ p, M1 p = none → Hd [] M (updM (updM M1 p (.lst (chO n0 n1 n2 o i))) D (.lst (G.map PV.ref ++ [.ref p]))) ((D, .lst (G.map PV.ref ++ [.ref p])) :: chR n0 n1 n2 o 0 (G ++ [p])) := fun p hp => by
      rw [chR_snoc, Nat.zero_add, gl]
      have h1 := h0.new (o := .lst (chO n0 n1 n2 o i)) hp
      have h2 : Hd [] M _ ((D, .lst (G.map PV.ref)) :: (chR n0 n1 n2 o 0 G ++ [(p, .lst (chO n0 n1 n2 o i))])) := h1.perm (by
        rw [← List.cons_append]
        exact (List.perm_append_comm (l₁ := [_])))
      exact h2.up0
    have bnd : (G.map PV.ref).length < sizeLine := by rw [List.length_map, sizeLine_eq]; omega
    walk_at "on"
    refine br_dec (fun h => ?_) (fun h => ?_)
    · have e : i = o := by omega
      walk_at "on"
      intro p hp
      have h1 := h0.new (o := .lst [PV.tup []]) hp
      have st := step p hp
      rw [show chO n0 n1 n2 o i = [.tup []] from if_pos e] at st
      exact ⟨h1.get 1 rfl, bnd, _, .refl _, G ++ [p], by rw [List.map_append]; rfl, by rw [List.length_append, gl]; rfl, st⟩
    · have ne : i ≠ o := by omega
      have hat := sel_at (n0 := n0) (n1 := n1) (n2 := n2) (o := i) (by omega)
      have s5 := hs i (by omega) ne
      walk_at "on"
      refine ⟨sel n0 n1 n2 i, rfl, by omega, fun p hp => ?_⟩
      have h1 := h0.new (o := .lst ((ordL (sel n0 n1 n2 i) (sel n0 n1 n2 i)).map pvO)) hp
      have st := step p hp
      rw [show chO n0 n1 n2 o i = (ordL (sel n0 n1 n2 i) (sel n0 n1 n2 i)).map pvO from if_neg ne] at st
      exact ⟨h1.get 1 rfl, bnd, _, .refl _, G ++ [p], by rw [List.map_append]; rfl, by rw [List.length_append, gl]; rfl, st⟩
  clear h0
  rintro acc M1 ⟨G, rfl, gl, h0⟩
  obtain ⟨c0, c1, c2, rfl⟩ : ∃ c0 c1 c2, G = [c0, c1, c2] := by
    match G, gl with
    | [a, b, c], _ => exact ⟨a, b, c, rfl⟩
  have h0 : Hd [] M M1 [(D, .lst [.ref c0, .ref c1, .ref c2]), (c0, .lst (chO n0 n1 n2 o 0)), (c1, .lst (chO n0 n1 n2 o 1)), (c2, .lst (chO n0 n1 n2 o 2))] := h0
  clear gl hD
  have len := fun k hk => chO_len (n0 := n0) (n1 := n1) (n2 := n2) (o := o) (k := k) fun hne => Nat.le_trans (hs k hk hne) (by decide)
  have len0 := len 0 (by decide)
  have len1 := len 1 (by decide)
  have len2 := len 2 (by decide)
  have pick : ∀ k i x, k ≤ 2 → (chO n0 n1 n2 o k)[i]? = some x → k ≠ o → ∃ p q, IV (sel n0 n1 n2 k) p q ∧ x = ordv (sel n0 n1 n2 k) p := fun k i x hk h hne => chO_at h hne (Nat.le_trans (hs k hk hne) (by decide))
  have cov : ∀ S T, IV3 n0 n1 n2 S T → ∀ k, k ≤ 2 → ∃ (i : Nat) (x : PV), (chO n0 n1 n2 o k)[i]? = some x ∧ (k ≠ o → x = ordv (sel n0 n1 n2 k) (S k)) := fun S T h k hk => chO_in (h.iv k hk)
  have pick0 : ∀ i x, (chO n0 n1 n2 o 0)[i]? = some x → 0 ≠ o → ∃ p q, IV n0 p q ∧ x = ordv n0 p := fun i x => pick 0 i x (by decide)
  have pick1 : ∀ i x, (chO n0 n1 n2 o 1)[i]? = some x → 1 ≠ o → ∃ p q, IV n1 p q ∧ x = ordv n1 p := fun i x => pick 1 i x (by decide)
  have pick2 : ∀ i x, (chO n0 n1 n2 o 2)[i]? = some x → 2 ≠ o → ∃ p q, IV n2 p q ∧ x = ordv n2 p := fun i x => pick 2 i x (by decide)
  have cov0 : ∀ S T, IV3 n0 n1 n2 S T → ∃ (i : Nat) (x : PV), (chO n0 n1 n2 o 0)[i]? = some x ∧ (0 ≠ o → x = ordv n0 (S 0)) := fun S T h => cov S T h 0 (by decide)
  have cov1 : ∀ S T, IV3 n0 n1 n2 S T → ∃ (i : Nat) (x : PV), (chO n0 n1 n2 o 1)[i]? = some x ∧ (1 ≠ o → x = ordv n1 (S 1)) := fun S T h => cov S T h 1 (by decide)
  have cov2 : ∀ S T, IV3 n0 n1 n2 S T → ∃ (i : Nat) (x : PV), (chO n0 n1 n2 o 2)[i]? = some x ∧ (2 ≠ o → x = ordv n2 (S 2)) := fun S T h => cov S T h 2 (by decide)
  have h0 : Hd [] M M1 (lsC D c0 c1 c2 (chO n0 n1 n2 o 0) (chO n0 n1 n2 o 1) (chO n0 n1 n2 o 2)) := h0
  clear pick cov len
  generalize chO n0 n1 n2 o 0 = L0 at *
  generalize chO n0 n1 n2 o 1 = L1 at *
  generalize chO n0 n1 n2 o 2 = L2 at *
  clear hs hm hx
  walk_at "on"
  refine ⟨fun i σ M' => ∃ (bv : PV) (w5 w6 w7 w8 w9 : Option PV), σ = [some (tab n0 n1 n2 W C), some (.tup [.int (n0 : Nat), .int (n1 : Nat), .int (n2 : Nat)]), some (.int (o : Int)), some (.ref D), some bv, w5, w6, w7, w8, w9, none] ∧ BestOk n0 n1 n2 W C o bv (Vis L0 L1 L2 i 0 0) ∧ Hd [] M M' (lsC D c0 c1 c2 L0 L1 L2), ⟨_, _, by walk_at "subs", .refl _, .non, _, _, _, _, _, rfl, .inl ⟨rfl, fun x0 x1 x2 ⟨a, b, c, _, _, _, h⟩ => by omega⟩, h0⟩, fun i σ M' ⟨_, _, _, _, _, _, _, _, h⟩ => .inl (h.get 1 rfl), ?_, ?_⟩
  · clear h0
    rintro i x0 σ M2 hx0 ⟨bv, w5, w6, w7, w8, w9, rfl, best, h0⟩
    have hD := h0.get 0 rfl
    walk_at "on"
    refine ⟨fun j σ M' => ∃ (bv : PV) (w6 w7 w8 w9 : Option PV), σ = [some (tab n0 n1 n2 W C), some (.tup [.int (n0 : Nat), .int (n1 : Nat), .int (n2 : Nat)]), some (.int (o : Int)), some (.ref D), some bv, some x0, w6, w7, w8, w9, none] ∧ BestOk n0 n1 n2 W C o bv (Vis L0 L1 L2 i j 0) ∧ Hd [] M M' (lsC D c0 c1 c2 L0 L1 L2), ⟨_, _, by walk_at "subs", .refl _, bv, _, _, _, _, rfl, best, h0⟩, fun j σ M' ⟨_, _, _, _, _, _, _, h⟩ => .inl (h.get 2 rfl), ?_, ?_⟩
    · clear h0 hD best
      rintro j x1 σ M3 hx1 ⟨bv, w6, w7, w8, w9, rfl, best, h0⟩
      have hD := h0.get 0 rfl
      walk_at "on"
      refine ⟨fun l σ M' => ∃ (bv : PV) (w7 w8 w9 : Option PV), σ = [some (tab n0 n1 n2 W C), some (.tup [.int (n0 : Nat), .int (n1 : Nat), .int (n2 : Nat)]), some (.int (o : Int)), some (.ref D), some bv, some x0, some x1, w7, w8, w9, none] ∧ BestOk n0 n1 n2 W C o bv (Vis L0 L1 L2 i j l) ∧ Hd [] M M' (lsC D c0 c1 c2 L0 L1 L2), ⟨_, _, by walk_at "subs", .refl _, bv, _, _, _, rfl, best, h0⟩, fun l σ M' ⟨_, _, _, _, _, _, h⟩ => .inl (h.get 3 rfl), ?_, ?_⟩
      · clear h0 hD best
        rintro l x2 σ M4 hx2 ⟨bv, w7, w8, w9, rfl, best, h0⟩
        walk_at "on"
        refine ald h0 fun ol hol h0 => ?_
        replace h0 := h0 (.lst [x0, x1, x2])
        walk_at "on"
        obtain ⟨p0, q0, f0⟩ : ∃ p q, 0 ≠ o → IV n0 p q ∧ x0 = ordv n0 p := by
          by_cases h : 0 ≠ o
          · obtain ⟨p, q, h1, h2⟩ := pick0 i x0 hx0 h; exact ⟨p, q, fun _ => ⟨h1, h2⟩⟩
          · exact ⟨fun k => k, fun k => k, fun q => absurd q h⟩
        obtain ⟨p1, q1, f1⟩ : ∃ p q, 1 ≠ o → IV n1 p q ∧ x1 = ordv n1 p := by
          by_cases h : 1 ≠ o
          · obtain ⟨p, q, h1, h2⟩ := pick1 j x1 hx1 h; exact ⟨p, q, fun _ => ⟨h1, h2⟩⟩
          · exact ⟨fun k => k, fun k => k, fun q => absurd q h⟩
        obtain ⟨p2, q2, f2⟩ : ∃ p q, 2 ≠ o → IV n2 p q ∧ x2 = ordv n2 p := by
          by_cases h : 2 ≠ o
          · obtain ⟨p, q, h1, h2⟩ := pick2 l x2 hx2 h; exact ⟨p, q, fun _ => ⟨h1, h2⟩⟩
          · exact ⟨fun k => k, fun k => k, fun q => absurd q h⟩
        have hsx : ∀ k, k ≤ 2 → k ≠ o → IV (sel n0 n1 n2 k) (sel p0 p1 p2 k) (sel q0 q1 q2 k) ∧ sel x0 x1 x2 k = ordv (sel n0 n1 n2 k) (sel p0 p1 p2 k) := fun k hk hne => by
          obtain rfl | rfl | rfl : k = 0 ∨ k = 1 ∨ k = 2 := by omega
          · exact f0 hne
          · exact f1 hne
          · exact f2 hne
        have hix : ∀ k, k ≤ 2 → [x0, x1, x2][k]? = some (sel x0 x1 x2 k) := fun k hk => by
          obtain rfl | rfl | rfl : k = 0 ∨ k = 1 ∨ k = 2 := by omega
          all_goals rfl
        generalize sel p0 p1 p2 = P at hsx
        generalize sel q0 q1 q2 = R at hsx
        clear f0 f1 f2 pick0 pick1 pick2 cov0 cov1 cov2
        refine ⟨n0, n1, n2, W, C, o, ol, [x0, x1, x2], P, rfl, ho, updM_same, fun k hk hne => ⟨by rw [hix k hk, (hsx k hk hne).2], (hsx k hk hne).1.lt⟩, g1, by omega, by omega, by omega, fun p q M5 hpq srt sb5 => ?_⟩
        replace h0 := h0.step sb5
        have dom := Dom.of (W := W) (C := C) ho (fun k hk hne => (hsx k hk hne).2) srt
        have hP3 : IV3 n0 n1 n2 (updP P o p) (updP R o q) := ⟨fun k hk => by
          by_cases h : k = o
          · subst h; rw [updP_same, updP_same]; exact hpq
          · rw [updP_ne h, updP_ne h]; exact (hsx k hk h).1⟩
        have eset : [x0, x1, x2].set o (ordv (sel n0 n1 n2 o) p) = [ordv n0 (updP P o p 0), ordv n1 (updP P o p 1), ordv n2 (updP P o p 2)] := by
          have w : ∀ k, k ≤ 2 → k ≠ o → sel x0 x1 x2 k = ordv (sel n0 n1 n2 k) (updP P o p k) := fun k hk hne => by rw [updP_ne hne]; exact (hsx k hk hne).2
          have w0 : 0 ≠ o → x0 = ordv n0 (updP P o p 0) := w 0 (by decide)
          have w1 : 1 ≠ o → x1 = ordv n1 (updP P o p 1) := w 1 (by decide)
          have w2 : 2 ≠ o → x2 = ordv n2 (updP P o p 2) := w 2 (by decide)
          obtain rfl | rfl | rfl : o = 0 ∨ o = 1 ∨ o = 2 := by omega
          · rw [← w1 (by decide), ← w2 (by decide)]; rfl
          · rw [← w0 (by decide), ← w2 (by decide)]; rfl
          · rw [← w0 (by decide), ← w1 (by decide)]; rfl
        generalize updP P o p = P' at dom hP3 eset
        generalize updP R o q = R' at hP3
        walk_at "on"
        refine ⟨_, o, h0.get 0 rfl, ixN_of (by show o < 3; omega), ?_⟩
        rw [eset]
        replace h0 := h0.up0 (o' := .lst [ordv n0 (P' 0), ordv n1 (P' 1), ordv n2 (P' 2)])
        walk_at "on"
        refine ⟨n0, n1, n2, W, C, P' 0, P' 1, P' 2, .ref ol, rfl, .inr ⟨ol, rfl, h0.get 0 rfl⟩, by omega, by omega, by omega, (hP3.iv 0 (by decide)).lt, (hP3.iv 1 (by decide)).lt, (hP3.iv 2 (by decide)).lt, ?_⟩
        walk_at "on"
        have vn : ∀ y0 y1 y2, Vis L0 L1 L2 i j (l + 1) y0 y1 y2 → Vis L0 L1 L2 i j l y0 y1 y2 ∨ (y0 = x0 ∧ y1 = x1 ∧ y2 = x2) := fun y0 y1 y2 v => v.next hx0 hx1 hx2
        have hl := h0.less (L' := lsC D c0 c1 c2 L0 L1 L2) (by simp)
        have b0' : n0 ≤ 1000 := by omega
        have b1' : n1 ≤ 1000 := by omega
        have b2' : n2 ≤ 1000 := by omega
        have fp : ∀ S : Nat → Nat → Nat, PureD 40 (PV.tup [arrP n0 n1 n2 W C S, ord3 n0 n1 n2 S]) := fun S => ((tx_2 (tx_tab (k := 0) b0' b1' b2') (ord3_tx (k := 2) b0' b1' b2')).more (by decide)).pure
        rcases best with ⟨rfl, no⟩ | ⟨S, T, hS, rfl, dm⟩
        · walk_at "on"
          refine ⟨_, _, by walk_at "subs", .refl _, _, _, _, _, rfl, BestOk.take (.inl ⟨rfl, no⟩) hP3 dom vn (fun S h => by cases h), hl⟩
        · walk_at "on"
          refine ⟨fp P', fp S, al_2 al_tab (fnd_al (W := W) (C := C)), (fun h => by cases h), ?_⟩
          refine br_of (fun h => ?_) (fun h => ?_)
          · walk_at "on"
            refine ⟨_, _, by walk_at "subs", .refl _, _, _, _, _, rfl, BestOk.take (.inr ⟨S, T, hS, rfl, dm⟩) hP3 dom vn (fun S' e => ?_), hl⟩
            have e := PV.tup.inj e
            injection e with e1 e2
            injection e2 with e2 _
            have h : ltV (.tup [arrP n0 n1 n2 W C P', ord3 n0 n1 n2 P']) (.tup [arrP n0 n1 n2 W C S, ord3 n0 n1 n2 S]) = true := h
            rcases (fnd_lt b0' b1' b2').mp h with h | h
            · rw [e1] at h; exact .inl h
            · rw [e1] at h; exact .inr h.1
          · refine ⟨_, _, by walk_at "subs", .refl _, _, _, _, _, rfl, BestOk.stay hS dm dom vn ?_, hl⟩
            cases z : ltV (arrP n0 n1 n2 W C P') (arrP n0 n1 n2 W C S) with
            | false => rfl
            | true =>
              have h : ltV (.tup [arrP n0 n1 n2 W C P', ord3 n0 n1 n2 P']) (.tup [arrP n0 n1 n2 W C S, ord3 n0 n1 n2 S]) = false := h
              rw [(fnd_lt b0' b1' b2').mpr (.inl z)] at h; cases h
      · clear h0 hD
        rintro σ M4 ⟨bv, w7, w8, w9, rfl, best, h0⟩
        exact ⟨_, _, by walk_at "subs", .refl _, bv, _, _, _, _, rfl, best.less fun _ _ _ => Vis.up, h0⟩
    · clear h0 hD
      rintro σ M3 ⟨bv, w6, w7, w8, w9, rfl, best, h0⟩
      exact ⟨_, _, by walk_at "subs", .refl _, bv, _, _, _, _, _, rfl, best.less fun _ _ _ => Vis.up2, h0⟩
  · clear h0
    rintro σ M2 ⟨bv, w5, w6, w7, w8, w9, rfl, best, h0⟩
    have all : ∀ S T, IV3 n0 n1 n2 S T → ∃ x0 x1 x2, Vis L0 L1 L2 L0.length 0 0 x0 x1 x2 ∧ ∀ k, k ≤ 2 → k ≠ o → sel x0 x1 x2 k = ordv (sel n0 n1 n2 k) (S k) := fun S T h => by
      obtain ⟨a, x0, e0, f0⟩ := cov0 S T h
      obtain ⟨b, x1, e1, f1⟩ := cov1 S T h
      obtain ⟨c, x2, e2, f2⟩ := cov2 S T h
      refine ⟨x0, x1, x2, ⟨a, b, c, e0, e1, e2, .inl (lt_of_get e0)⟩, fun k hk hne => ?_⟩
      obtain rfl | rfl | rfl : k = 0 ∨ k = 1 ∨ k = 2 := by omega
      · exact f0 hne
      · exact f1 hne
      · exact f2 hne
    rcases best with ⟨rfl, no⟩ | ⟨P, R, hP, rfl, dom⟩
    · obtain ⟨x0, x1, x2, v, _⟩ := all (fun _ k => k) (fun _ k => k) ⟨fun k _ => ⟨fun _ h => h, fun _ h => h, fun _ _ => rfl, fun _ _ => rfl⟩⟩
      exact absurd v (no _ _ _)
    · walk_at "on"
      refine ⟨_, .refl _, k P R _ hP (fun S T hS => ?_) h0.sub⟩
      obtain ⟨x0, x1, x2, v, hx⟩ := all S T hS
      exact dom _ _ _ v S T hS hx

theorem map_cancel {c : Int} (hc : 0 < c) : ∀ {a b : List Int}, a.map (c * ·) = b.map (c * ·) → a = b
  | [], [], _ => rfl
  | [], _ :: _, h => by cases h
  | _ :: _, [], h => by cases h
  | x :: a, y :: b, h => by
    have h1 : c * x = c * y ∧ a.map (c * ·) = b.map (c * ·) := by simpa using h
    rw [Int.eq_of_mul_eq_mul_left (by omega) h1.1, map_cancel hc h1.2]
theorem red_prop {R w rs : List Int} {g T : Int} (hg : 0 < g) (hT : 0 < T) (e : R.map (g * ·) = w.map (T * ·)) (h1 : gl w = 1) (hr : IsRed R rs) : rs = w := by
  have e2 := congrArg gl e
  rw [gl_mul, gl_mul, h1, Nat.mul_one] at e2
  cases hr with
  | zero hz q =>
    exfalso
    have : gl R = 0 := by
      have : R.map (1 * ·) = R.map (0 * ·) := List.map_congr_left fun r hr => by rw [hz r hr]; rfl
      have h := congrArg gl this
      rw [gl_mul, gl_mul] at h
      simpa using h
    rw [this, Nat.mul_zero] at e2
    omega
  | pos c hc q h =>
    have e3 : gl R = c.natAbs := by rw [q, gl_mul, h, Nat.mul_one]
    rw [e3] at e2
    have e4 : g * c = T := by
      have : ((g.natAbs * c.natAbs : Nat) : Int) = (T.natAbs : Nat) := by rw [e2]
      rw [Int.natCast_mul, Int.natAbs_of_nonneg (by omega), Int.natAbs_of_nonneg (by omega), Int.natAbs_of_nonneg (by omega)] at this
      exact this
    refine map_cancel hT ?_
    rw [← e, q, List.map_map]
    refine List.map_congr_left fun r _ => ?_
    show T * r = g * (c * r)
    rw [← e4, Int.mul_assoc]
theorem map_one (ws : List Int) : ws.map (1 * ·) = ws := by
  conv => rhs; rw [← List.map_id ws]
  exact List.map_congr_left fun x _ => Int.one_mul x
theorem IsRed.fnl {ws a b : List Int} (ha : IsRed ws a) (hb : IsRed ws b) : a = b := by
  cases hb with
  | zero z eb =>
    cases ha with
    | zero _ ea => rw [ea, eb]
    | pos g hg e h => exact (red_prop (R := ws) (w := a) (g := 1) (T := g) (by decide) hg (by rw [map_one]; exact e) h (.zero z eb)).symm
  | pos g hg e h => exact red_prop (R := ws) (w := b) (g := 1) (T := g) (by decide) hg (by rw [map_one]; exact e) h ha

mutual
/-- the same data, at most n deep: lists by what stands in them -/
inductive TD (K : Kf) (M : PHp) : Nat → PV → PV → Prop
  | non {n} : TD K M (n + 1) .non .non
  | bl {n} (b) : TD K M (n + 1) (.bl b) (.bl b)
  | int {n} (i) : TD K M (n + 1) (.int i) (.int i)
  | str {n} (x) : TD K M (n + 1) (.str x) (.str x)
  | tup {n l l'} : l.length ≤ 16777216 → TDs K M n l l' → TD K M (n + 1) (.tup l) (.tup l')
  | lst {n a b l l'} : M a = some (.lst l) → M b = some (.lst l') → l.length ≤ 16777216 → TDs K M n l l' → TD K M (n + 1) (.ref a) (.ref b)
inductive TDs (K : Kf) (M : PHp) : Nat → List PV → List PV → Prop
  | nil {n} : TDs K M n [] []
  | cons {n p q l l'} : TD K M n p q → TDs K M n l l' → TDs K M n (p :: l) (q :: l')
end
theorem TDs.len {K : Kf} {M : PHp} {n : Nat} : ∀ {l l' : List PV}, TDs K M n l l' → l.length = l'.length
  | [], _, .nil => rfl
  | _ :: _, _, .cons _ h => congrArg (· + 1) (TDs.len h)
theorem TDs.get {K : Kf} {M : PHp} {n : Nat} : ∀ {l l' : List PV} {i : Nat}, TDs K M n l l' → i < l.length → ∃ x y, l[i]? = some x ∧ l'[i]? = some y ∧ TD K M n x y
  | _, _, 0, .cons h _, _ => ⟨_, _, rfl, rfl, h⟩
  | _, _, i + 1, .cons _ h, hi => TDs.get (i := i) h (Nat.lt_of_succ_lt_succ hi)
theorem TDs.of {K : Kf} {M : PHp} {n : Nat} : ∀ {l l' : List PV}, l.length = l'.length → (∀ (i : Nat) x y, l[i]? = some x → l'[i]? = some y → TD K M n x y) → TDs K M n l l'
  | [], [], _, _ => .nil
  | x :: l, y :: l', e, h => .cons (h 0 x y rfl rfl) (TDs.of (Nat.succ.inj e) fun i x y h1 h2 => h (i + 1) x y h1 h2)
  | [], _ :: _, e, _ => by cases e
  | _ :: _, [], e, _ => by cases e
theorem PureD.td {K : Kf} {M : PHp} : ∀ {n : Nat} {x : PV}, PureD n x → TD K M n x x
  | _, _, .non => .non
  | _, _, .bl _ => .bl _
  | _, _, .int _ => .int _
  | _, _, .str _ => .str _
  | n + 1, .tup l, .tup h1 h2 => .tup h1 (.of rfl fun i x y e1 e2 => by rw [e1] at e2; cases e2; exact PureD.td (h2 x (List.mem_of_getElem? e1)))
def sp__law_told (K : Kf) (n : Nat) : PSpec := fun vs M Q _ => ∃ x y, vs = [x, y] ∧ TD K M n x y ∧ Q (.bl true) M
theorem sp__law_told_len {K : Kf} {n : Nat} {vs : List PV} {M : PHp} {Q : PVK} {E : PXK} (h : sp__law_told K n vs M Q E) : vs.length = 2 := by
  obtain ⟨_, _, rfl, _⟩ := h; rfl
theorem sp__law_told_zero {K : Kf} {vs : List PV} {M : PHp} {Q : PVK} {E : PXK} (h : sp__law_told K 0 vs M Q E) : False := by
  obtain ⟨_, _, rfl, h, _⟩ := h; cases h

theorem ok__law_told {P : Program} {w : World} {K : Kf} {mg : Str → Option Value} {base : Heap} (h0 : Here K mg "_law_told" s__law_told ["answer", "due"]) (T : Blt mg) (Su : Sure P base)  : ∀ n : Nat, Callee P w K mg base (34 + n) "_law_told" ["answer", "due"] (sp__law_told K n)
  | 0 => (Callee.never (k := 33) h0 sc__law_told).imp fun _ _ _ _ h => (sp__law_told_zero h).elim
  | n + 1 => by
    have C__law_told := ok__law_told (P := P) (w := w) (base := base) h0 T Su  n
    refine ok_of (k := 34 + n) h0 sc__law_told (fun vs M Q E h => sp__law_told_len h) (fun f cdv A outer s H E hr => ⟨_, (psscons (psif (ptcmp opIsN (pv 1) pnon (nomark _)) (pssone (psret (pcmp opIsN (pv 0) pnon (nomark _)))) pssnil)
      (psscons (psif (PW.pt (pwor (ptval (pcallB (cIsiK (K := K)) (by rfl) T.b_isinstance (by decide +kernel) (pacons (pv 1) (pacons (pbltn (p := .ty "bool") (v := .ty "bool") (by rfl) T.b_bool (by decide +kernel) rfl (fun _ => .ty _)) panil)))) (pwor1 (ptval (pcallB (cIsiK (K := K)) (by rfl) T.b_isinstance (by decide +kernel) (pacons (pv 0) (pacons (pbltn (p := .ty "bool") (v := .ty "bool") (by rfl) T.b_bool (by decide +kernel) rfl (fun _ => .ty _)) panil))))))) (pssone (psret (pand (pcallB (cIsiK (K := K)) (by rfl) T.b_isinstance (by decide +kernel) (pacons (pv 1) (pacons (pbltn (p := .ty "bool") (v := .ty "bool") (by rfl) T.b_bool (by decide +kernel) rfl (fun _ => .ty _)) panil))) (pand (pcallB (cIsiK (K := K)) (by rfl) T.b_isinstance (by decide +kernel) (pacons (pv 0) (pacons (pbltn (p := .ty "bool") (v := .ty "bool") (by rfl) T.b_bool (by decide +kernel) rfl (fun _ => .ty _)) panil))) (pone (pcmp (opEqK (K := K) (by exact hr.units)) (pv 0) (pv 1) (nomark _))))))) pssnil)
      (psscons (psif (ptval (pcallB (cIsiK (K := K)) (by rfl) T.b_isinstance (by decide +kernel) (pacons (pv 1) (pacons (pbltn (p := .ty "int") (v := .ty "int") (by rfl) T.b_int (by decide +kernel) rfl (fun _ => .ty _)) panil)))) (pssone (psret (pand (pcallB (cIsiK (K := K)) (by rfl) T.b_isinstance (by decide +kernel) (pacons (pv 0) (pacons (pbltn (p := .ty "int") (v := .ty "int") (by rfl) T.b_int (by decide +kernel) rfl (fun _ => .ty _)) panil))) (pone (pcmp (opEqK (K := K) (by exact hr.units)) (pv 0) (pv 1) (nomark _)))))) pssnil)
      (psscons (psif (ptval (pcallB (cIsiK (K := K)) (by rfl) T.b_isinstance (by decide +kernel) (pacons (pv 1) (pacons (pbltn (p := .ty "str") (v := .ty "str") (by rfl) T.b_str (by decide +kernel) rfl (fun _ => .ty _)) panil)))) (pssone (psret (pand (pcallB (cIsiK (K := K)) (by rfl) T.b_isinstance (by decide +kernel) (pacons (pv 0) (pacons (pbltn (p := .ty "str") (v := .ty "str") (by rfl) T.b_str (by decide +kernel) rfl (fun _ => .ty _)) panil))) (pone (pcmp (opEqK (K := K) (by exact hr.units)) (pv 0) (pv 1) (nomark _)))))) pssnil)
      (psscons (psif (ptval (pcallB (cIsiK (K := K)) (by rfl) T.b_isinstance (by decide +kernel) (pacons (pv 1) (pacons (pbltn (p := .ty "dict") (v := .ty "dict") (by rfl) T.b_dict (by decide +kernel) rfl (fun _ => .ty _)) panil)))) pssdead pssnil)
      (psscons (psif (PW.pt (pwor (ptcmp (opNeK (K := K) (by exact hr.units)) (pcallB (cIsiK (K := K)) (by rfl) T.b_isinstance (by decide +kernel) (pacons (pv 1) (pacons (pbltn (p := .ty "tuple") (v := .ty "tuple") (by rfl) T.b_tuple (by decide +kernel) rfl (fun _ => .ty _)) panil))) (pcallB (cIsiK (K := K)) (by rfl) T.b_isinstance (by decide +kernel) (pacons (pv 0) (pacons (pbltn (p := .ty "tuple") (v := .ty "tuple") (by rfl) T.b_tuple (by decide +kernel) rfl (fun _ => .ty _)) panil))) (nomark _)) (pwor1 (ptcmp (opNeK (K := K) (by exact hr.units)) (pcallB (cIsiK (K := K)) (by rfl) T.b_isinstance (by decide +kernel) (pacons (pv 1) (pacons (pbltn (p := .ty "list") (v := .ty "list") (by rfl) T.b_list (by decide +kernel) rfl (fun _ => .ty _)) panil))) (pcallB (cIsiK (K := K)) (by rfl) T.b_isinstance (by decide +kernel) (pacons (pv 0) (pacons (pbltn (p := .ty "list") (v := .ty "list") (by rfl) T.b_list (by decide +kernel) rfl (fun _ => .ty _)) panil))) (nomark _))))) (pssone (psret pbl)) pssnil)
      (psscons (psif (PW.pt (pwor (ptnot (ptval (pcallB (cIsiTK (K := K)) (by rfl) T.b_isinstance (by decide +kernel) (pacons (pv 0) (pacons (ptup (pacons (pbltn (p := .ty "tuple") (v := .ty "tuple") (by rfl) T.b_tuple (by decide +kernel) rfl (fun _ => .ty _)) (pacons (pbltn (p := .ty "list") (v := .ty "list") (by rfl) T.b_list (by decide +kernel) rfl (fun _ => .ty _)) panil))) panil))))) (pwor1 (ptcmp (opNeK (K := K) (by exact hr.units)) (pcallB (cLenK (K := K)) (by rfl) T.b_len (by decide +kernel) (pacons (pv 0) panil)) (pcallB (cLenK (K := K)) (by rfl) T.b_len (by decide +kernel) (pacons (pv 1) panil)) (nomark _))))) (pssone (psret pbl)) pssnil)
      (psscons (psfor PassesOwn.never rfl (pirng1 (by rfl) T.b_range (pacons (pcallB (cLenK (K := K)) (by rfl) T.b_len (by decide +kernel) (pacons (pv 1) panil)) panil)) (pgname (i := 2) sc__law_told.nd) (pssone (psif (ptnot (ptval (pcall C__law_told (by exact hr.mono (by first | decide | omega)) (pacons (pixK (K := K) (pv 0) (pv 2)) (pacons (pixK (K := K) (pv 1) (pv 2)) panil))))) (pssone (psret pbl)) pssnil)))
      (pssone (psret pbl)))))))))), fun vs M Q Ep h => ?_⟩)
    obtain ⟨x, y, rfl, hd, k⟩ := h
    cases hd with
    | non =>
      walk_at "go"
      exact ⟨_, .refl _, k⟩
    | bl b =>
      walk_at "go"
      refine ⟨_, .refl _, ?_⟩
      rw [decide_eq_true rfl]; exact k
    | int i =>
      walk_at "go"
      refine ⟨_, .refl _, ?_⟩
      rw [decide_eq_true rfl]; exact k
    | str z =>
      walk_at "go"
      refine ⟨_, .refl _, ?_⟩
      rw [decide_eq_true rfl]; exact k
    | @tup _ l l' hl ht =>
      have e := ht.len
      walk_at "go"
      refine br_f (by simp) ?_
      walk_at "on"
      refine br_f (by simp) ?_
      walk_at "on"
      refine ⟨"tuple", ["tuple", "list"], rfl, rfl, by decide, ?_⟩
      walk_at "on"
      refine br_f (by decide) ?_
      walk_at "on"
      refine br_f (by simp [e]) ?_
      walk_at "on"
      refine ⟨by omega, ?_⟩
      refine ⟨fun i σ M1 => σ = [some (.tup l), some (.tup l'), none, none] ∧ M1 = M, ⟨_, _, .refl _, .refl _, rfl, rfl⟩, ?_, ?_, ?_⟩
      · intros; trivial
      · rintro i p σ M1 hp ⟨rfl, rfl⟩
        obtain ⟨hi, rfl⟩ := rng_get hp
        obtain ⟨x, y, e1, e2, hxy⟩ := ht.get (i := i) (by omega)
        rw [show (0 : Int) + (i : Int) = (i : Int) by omega]
        have a1 := atI_nat e1
        have a2 := atI_nat e2
        walk_at "on"
        refine ⟨_, _, rfl, hxy, ?_⟩
        walk_at "on"
        exact ⟨_, _, by walk_at "subs", .refl _, rfl, rfl⟩
      · rintro σ M1 ⟨rfl, rfl⟩
        walk_at "on"
        exact ⟨_, .refl _, k⟩
    | @lst _ a b l l' h1 h2 hl ht =>
      have e := ht.len
      walk_at "go"
      refine br_f (by simp) ?_
      walk_at "on"
      refine br_f (by simp) ?_
      walk_at "on"
      refine ⟨"list", ["tuple", "list"], .inl ⟨_, h1, rfl⟩, rfl, by decide, ?_⟩
      walk_at "on"
      refine br_f (by decide) ?_
      walk_at "on"
      refine br_f (by simp [e]) ?_
      walk_at "on"
      refine ⟨by omega, ?_⟩
      refine ⟨fun i σ M1 => σ = [some (.ref a), some (.ref b), none, none] ∧ M1 = M, ⟨_, _, .refl _, .refl _, rfl, rfl⟩, ?_, ?_, ?_⟩
      · intros; trivial
      · rintro i p σ M1 hp ⟨rfl, rfl⟩
        obtain ⟨hi, rfl⟩ := rng_get hp
        obtain ⟨x, y, e1, e2, hxy⟩ := ht.get (i := i) (by omega)
        rw [show (0 : Int) + (i : Int) = (i : Int) by omega]
        have a1 := atI_nat e1
        have a2 := atI_nat e2
        walk_at "on"
        refine ⟨_, _, rfl, hxy, ?_⟩
        walk_at "on"
        exact ⟨_, _, by walk_at "subs", .refl _, rfl, rfl⟩
      · rintro σ M1 ⟨rfl, rfl⟩
        walk_at "on"
        exact ⟨_, .refl _, k⟩
  
/-! is_reduced -/
theorem ky_str (n : Nat) (l : List Str) : KyD (n + 2) (.tup (l.map PV.str)) := .tup fun x hx => by
  obtain ⟨y, _, rfl⟩ := List.mem_map.mp hx
  exact .str y
theorem ky_rw (n : Nat) (r : List (List Str)) : KyD (n + 3) (rwV r) := .tup fun x hx => by
  obtain ⟨y, _, rfl⟩ := List.mem_map.mp hx
  exact ky_str n y
theorem ky_sl {C : Cub} {w n o : Nat} {x : PV} (hx : x ∈ slL C w n o) : ∃ t, x = .tup t ∧ KyD 8 x := by
  obtain ⟨i, _, rfl⟩ := List.mem_map.mp hx
  unfold slP
  split
  · exact ⟨_, rfl, ky_rw 5 _⟩
  · split
    · exact ⟨_, rfl, .tup fun x hx => by
        obtain ⟨y, _, rfl⟩ := List.mem_map.mp hx
        exact ky_str 5 _⟩
    · exact ⟨_, rfl, .tup fun x hx => by
        obtain ⟨y, _, rfl⟩ := List.mem_map.mp hx
        exact .str _⟩
def RedP (ws : List Int) (C : Cub) (w n : Nat) : Prop := (∀ x ∈ ws, 1 ≤ x) ∧ IsRed ws ws ∧ ∀ o, o ≤ 2 → (slL C w n o).Nodup
theorem sl_len {C : Cub} {w n o : Nat} : (slL C w n o).length = slN C w n o := by unfold slL; rw [List.length_map, List.length_range]
theorem pv_ints : ∀ {a b : List Int}, a.map PV.int = b.map PV.int → a = b
  | [], [], _ => rfl
  | [], _ :: _, h => by cases h
  | _ :: _, [], h => by cases h
  | x :: a, y :: b, h => by
    injection h with h1 h2
    rw [PV.int.inj h1, pv_ints h2]
def sp_is_reduced (K : Kf) : PSpec := fun vs M Q _ => ∃ (ws : List Int) (C : Cub) (w n : Nat), vs = [.tup [.tup (ws.map PV.int), cuV C]] ∧ ws ≠ [] ∧ ws.length ≤ 1000 ∧ Sh C w n ∧ C.length < 64 ∧ w < 64 ∧ n < 64 ∧
  ∀ b M', (b = true ↔ RedP ws C w n) → Sub M M' → Q (.bl b) M'
theorem sp_is_reduced_len {K : Kf} {vs : List PV} {M : PHp} {Q : PVK} {E : PXK} (h : sp_is_reduced K vs M Q E) : vs.length = 1 := by
  obtain ⟨_, _, _, _, rfl, _⟩ := h; rfl

theorem ok_is_reduced {P : Program} {w : World} {K : Kf} {mg : Str → Option Value} {base : Heap} (h0 : Here K mg "is_reduced" s_is_reduced ["table"]) (T : Blt mg) (Su : Sure P base) (C__slices_of : Callee P w K mg base 34 "_slices_of" ["cells", "owner"] (sp__slices_of K)) (C_reduced : Callee P w K mg base 34 "reduced" ["weights"] (sp_reduced K)) : Callee P w K mg base 35 "is_reduced" ["table"] (sp_is_reduced K) := by
  refine ok_of h0 sc_is_reduced (fun vs M Q E h => sp_is_reduced_len h) (fun f cdv A outer s H E hr => ⟨_, (psscons (psasg (pv 0) (pgtup rfl (pgscons (pgname (i := 1) sc_is_reduced.nd) (pgscons (pgname (i := 2) sc_is_reduced.nd) pgsnil))))
      (psscons (psifc (PW.pt (pwor (ptcmp (opLt (by exact hr.units0)) (pcallB (cMinK (K := K) rfl) (by rfl) T.b_min (by decide +kernel) (pacons (pv 1) panil)) pinT (nomark _)) (pwor1 (ptcmp (opNeD (K := K) (by exact hr.units)) (pcall C_reduced (by exact hr.mono (by first | decide | omega)) (pacons (pv 1) panil)) (pv 1) (nomark _))))) (pssone (psret pbl)) pssnil)
      (psscons (psfor PassesOwn.never rfl (pirng1 (by rfl) T.b_range (pacons pinT panil)) (pgname (i := 3) sc_is_reduced.nd) (psscons (psset 4 sc_is_reduced.nd (pcall C__slices_of (by exact hr.mono (by first | decide | omega)) (pacons (pv 2) (pacons (pv 3) panil))))
      (pssone (psif (ptcmp (opLt (by exact hr.units0)) (plenset (K := K) rfl (by exact hr.units) (by rfl) T.b_len (by rfl) T.b_set (pv 4)) (pcallB (cLenK (K := K)) (by rfl) T.b_len (by decide +kernel) (pacons (pv 4) panil)) (nomark _)) (pssone (psret pbl)) pssnil))))
      (pssone (psret pbl))))), fun vs M Q Ep h => ?_⟩)
  obtain ⟨ws, C, w, n, rfl, hne, hl, sh, lC, lw, ln, k⟩ := h
  have h0 : Hd [] M M [] := .start
  walk_at "go"
  refine ⟨fun b M' => (b = true ↔ ¬ ((∀ x ∈ ws, 1 ≤ x) ∧ IsRed ws ws)) ∧ M' = M, ?_, ?_⟩
  · walk_at "on"
    refine ⟨ws, rfl, ?_⟩
    refine ⟨List.length_pos_iff.mpr hne, fun m hm least => ?_⟩
    walk_at "on"
    refine br_dec (fun h => ?_) (fun h => ?_)
    · exact ⟨_, .refl _, ⟨fun _ r => by have := r.1 m hm; omega, fun _ => rfl⟩, rfl⟩
    walk_at "on"
    refine ⟨_, ws, rfl, .inl rfl, hl, fun rs hrs => ?_⟩
    have rl := hrs.len
    walk_at "on"
    have tx : ∀ l : List Int, l.length ≤ 1000 → TxtD 40 (.tup (l.map PV.int)) := fun l h => .tup (by rw [List.length_map]; omega) fun x hx => (by obtain ⟨z, _, rfl⟩ := List.mem_map.mp hx; exact .int _)
    refine ⟨tx _ (by omega), tx _ hl, fun b hb => ⟨_, .refl _, hb.trans ⟨fun ne r => ne ?_, fun nr e => nr ⟨fun x hx => by have := least x hx; omega, ?_⟩⟩, rfl⟩⟩
    · rw [hrs.fnl r.2]
    · rw [pv_ints (PV.tup.inj e)] at hrs; exact hrs
  rintro b M' ⟨hb, rfl⟩
  refine br_of (fun h => ?_) (fun h => ?_)
  · walk_at "on"
    refine ⟨_, .refl _, k false _ ⟨fun e => (by cases e), fun r => absurd ⟨r.1, r.2.1⟩ (hb.mp h)⟩ (.refl _)⟩
  have good : (∀ x ∈ ws, 1 ≤ x) ∧ IsRed ws ws := Classical.byContradiction fun q => by rw [hb.mpr q] at h; cases h
  clear hb h
  walk_at "on"
  refine ⟨by decide, ?_⟩
  refine ⟨fun i σ M1 => ∃ w3 w4 : Option PV, σ = [some (.tup [.tup (ws.map PV.int), cuV C]), some (.tup (ws.map PV.int)), some (cuV C), w3, w4] ∧ (∀ o, o < i → (slL C w n o).Nodup) ∧ Hd [] M' M1 [], ⟨_, _, by walk_at "subs", .refl _, _, _, rfl, fun o h => absurd h (Nat.not_lt_zero o), h0⟩, fun _ _ _ _ => trivial, ?_, ?_⟩
  · clear h0
    rintro i x σ M1 hx ⟨w3, w4, rfl, nd, h0⟩
    obtain ⟨hi, rfl⟩ := rng_get hx
    have hi : i < 3 := hi
    rw [show (0 : Int) + (i : Int) = (i : Int) by omega]
    walk_at "on"
    refine ⟨C, w, n, i, rfl, sh, by omega, fun p M2 hp0 hp1 sb2 => ?_⟩
    have few : (slL C w n i).length < 64 := by
      rw [sl_len]; unfold slN; split
      · exact lC
      · split
        · exact lw
        · exact ln
    replace h0 := h0.addn sb2 hp0 hp1
    walk_at "on"
    refine ⟨few, fun x hx => ky_sl hx, fun m hm nd2 => ?_⟩
    walk_at "on"
    refine br_of (fun h => ?_) (fun h => ?_)
    · walk_at "on"
      refine ⟨_, .refl _, k false _ ⟨fun e => (by cases e), fun r => ?_⟩ h0.sub⟩
      have := nd2.mpr (r.2.2 i (by omega))
      simp at h; omega
    · refine ⟨_, _, by walk_at "subs", .refl _, _, _, rfl, fun o ho => ?_, h0.less (by simp)⟩
      rcases Nat.lt_or_ge o i with q | q
      · exact nd o q
      · have e : o = i := by omega
        subst e
        refine nd2.mp ?_
        simp at h; omega
  · clear h0
    rintro σ M1 ⟨w3, w4, rfl, nd, h0⟩
    walk_at "on"
    exact ⟨_, .refl _, k true _ ⟨fun _ => ⟨good.1, good.2, fun o ho => nd o (by show o < 3; omega)⟩, fun _ => rfl⟩ h0.sub⟩

def sp__law_orders (K : Kf) : PSpec := fun vs M Q _ => ∃ n : Nat, vs = [.int (n : Int)] ∧ n ≤ 6 ∧ ∀ p M', M p = none → M' p = some (.lst ((ordL n n).map pvO)) → Sub M M' → Q (.ref p) M'
theorem sp__law_orders_len {K : Kf} {vs : List PV} {M : PHp} {Q : PVK} {E : PXK} (h : sp__law_orders K vs M Q E) : vs.length = 1 := by
  obtain ⟨_, rfl, _⟩ := h; rfl
theorem pvO_at {L : List (List Int)} {j : Nat} {x : PV} (hx : (L.map pvO)[j]? = some x) : ∃ o, L[j]? = some o ∧ x = pvO o := by
  rw [List.getElem?_map] at hx
  cases e : L[j]? with
  | none => rw [e] at hx; cases hx
  | some z => rw [e] at hx; exact ⟨z, rfl, (Option.some.inj hx).symm⟩

theorem ok__law_orders {P : Program} {w : World} {K : Kf} {mg : Str → Option Value} {base : Heap} (h0 : Here K mg "_law_orders" s__law_orders ["count"]) (T : Blt mg) (Su : Sure P base)  : Callee P w K mg base 34 "_law_orders" ["count"] (sp__law_orders K) := by
  refine ok_of h0 sc__law_orders (fun vs M Q E h => sp__law_orders_len h) (fun f cdv A outer s H E hr => ⟨_, (psscons (psset 1 sc__law_orders.nd (plst (pacons (ptup panil) panil)))
      (psscons (psfor PassesOwn.never rfl (pirng1 (by rfl) T.b_range (pacons (pv 0) panil)) (pgname (i := 2) sc__law_orders.nd) (psscons (psset 3 sc__law_orders.nd (plst panil))
      (psscons (psfor PassesOwn.never rfl (piseqK (K := K) (pcallTy (cListK (K := K)) (by rfl) T.b_list (by decide +kernel) (pacons (pv 1) panil))) (pgname (i := 4) sc__law_orders.nd) (pssone (psfor PassesOwn.never rfl (pirng1 (by rfl) T.b_range (pacons (pv 0) panil)) (pgname (i := 5) sc__law_orders.nd) (pssone (psif (ptcmp (opNotIn (K := K)) (pv 5) (pv 4) rfl) (pssone (psexpr (pbmK (K := K) PySem.F.plainAttrs_list PySem.F.slot_list_append PySem.F.type_list_append mAppend (pv 3) (pacons (pop opAdd (pv 4) (ptup (pacons (pv 5) panil))) panil)))) pssnil)))))
      (pssone (psset 1 sc__law_orders.nd (pv 3))))))
      (pssone (psret (pv 1))))), fun vs M Q Ep h => ?_⟩)
  obtain ⟨n, rfl, hn, k⟩ := h
  have F := ordF hn
  have h0 : Hd [] M M [] := .start
  walk_at "go"
  refine ald h0 fun f hf h0 => ?_
  replace h0 := h0 (.lst [.tup []])
  walk_at "on"
  refine ⟨by omega, ?_⟩
  refine ⟨fun i σ M1 => ∃ (f : Addr) (w2 w3 w4 w5 : Option PV), σ = [some (.int n), some (.ref f), w2, w3, w4, w5] ∧ Hd [] M M1 [(f, .lst ((ordL n i).map pvO))], ⟨_, _, by walk_at "subs", .refl _, f, _, _, _, _, rfl, h0⟩, ?_, ?_, ?_⟩
  · intros; trivial
  · clear h0 hf
    rintro i x σ M1 hx ⟨f, w2, w3, w4, w5, rfl, h0⟩
    obtain ⟨hi, rfl⟩ := rng_get hx
    have hi : i < n := by omega
    have few := F.few i hi
    walk_at "on"
    refine ald h0 fun lg hlg h0 => ?_
    replace h0 := h0 (.lst [])
    walk_at "on"
    refine ald h0 fun cp hcp h0 => ?_
    replace h0 := h0 (.lst ((ordL n i).map pvO))
    walk_at "on"
    refine ⟨fun j σ M' => ∃ (w4 w5 : Option PV), σ = [some (.int n), some (.ref f), some (.int (0 + (i : Int))), some (.ref lg), w4, w5] ∧ Hd [] M M' [(lg, .lst ((ordStep n ((ordL n i).take j)).map pvO)), (cp, .lst ((ordL n i).map pvO))], ⟨_, _, by walk_at "subs", .refl _, _, _, rfl, h0.sel [1, 0] (by decide) rfl⟩, fun j σ M' ⟨_, _, _, h⟩ => .inl (h.get 1 rfl), ?_, ?_⟩
    · clear h0
      rintro j x σ M2 hx ⟨w4, w5, rfl, h0⟩
      obtain ⟨o, ho, rfl⟩ := pvO_at hx
      have hj := lt_of_get ho
      have hol := ordL_len i o (List.mem_of_getElem? ho)
      walk_at "on"
      refine ⟨by omega, ?_⟩
      refine ⟨fun l σ M' => ∃ (w5 : Option PV), σ = [some (.int n), some (.ref f), some (.int (0 + (i : Int))), some (.ref lg), some (pvO o), w5] ∧ Hd [] M M' [(lg, .lst ((ordStep n ((ordL n i).take j) ++ (((iota n).take l).filter fun z => !decide (z ∈ o)).map fun z => o ++ [z]).map pvO)), (cp, .lst ((ordL n i).map pvO))], ⟨_, _, by walk_at "subs", .refl _, _, rfl, by simpa using h0⟩, ?_, ?_, ?_⟩
      · intros; trivial
      · clear h0
        rintro l x σ M3 hx ⟨w5, rfl, h0⟩
        obtain ⟨hl, e1, e2⟩ := iota_at hx
        subst e1
        have bl := step_len n ((ordL n i).take j)
        rw [List.length_take] at bl
        have bl2 : min j (ordL n i).length * n ≤ 720 * 6 := Nat.mul_le_mul (by omega) hn
        have fl := List.length_filter_le (fun z => !decide (z ∈ o)) ((iota n).take l)
        rw [List.length_take, iota_len] at fl
        rw [Int.toNat_natCast] at e2
        walk_at "on"
        refine br_ndec (fun h => ?_) (fun h => ?_)
        · walk_at "on"
          refine ⟨by rw [List.length_map, List.length_singleton, sizeLine_eq]; omega, ?_⟩
          walk_at "on"
          refine ⟨_, h0.get 0 rfl, by rw [List.length_map, List.length_append, List.length_map, sizeLine_eq]; omega, ?_⟩
          refine ⟨_, _, by walk_at "subs", .refl _, _, rfl, ?_⟩
          rw [e2, List.filter_append, List.filter_cons_of_pos (by simpa using h)]
          have e3 : (ordStep n ((ordL n i).take j) ++ ((((iota n).take l).filter fun z => !decide (z ∈ o)) ++ (l : Int) :: List.filter (fun z => !decide (z ∈ o)) []).map fun z => o ++ [z]).map pvO = (ordStep n ((ordL n i).take j) ++ (((iota n).take l).filter fun z => !decide (z ∈ o)).map fun z => o ++ [z]).map pvO ++ [.tup (o.map PV.int ++ [.int (l : Int)])] := by simp
          rw [e3]
          exact h0.up0
        · refine ⟨_, _, by walk_at "subs", .refl _, _, rfl, ?_⟩
          rw [e2, List.filter_append, List.filter_cons_of_neg (by simpa using h)]
          simpa using h0
      · clear h0
        rintro σ M3 ⟨w5, rfl, h0⟩
        refine ⟨_, _, by walk_at "subs", .refl _, _, _, rfl, ?_⟩
        rw [take_succ' ho, step_snoc]
        rw [rng_len, Int.toNat_natCast, List.take_of_length_le (l := iota n) (by rw [iota_len]; exact Nat.le_refl _)] at h0
        exact h0
    · clear h0
      rintro σ M2 ⟨w4, w5, rfl, h0⟩
      rw [List.length_map, List.take_of_length_le (Nat.le_refl _)] at h0
      walk_at "on"
      exact ⟨_, _, by walk_at "subs", .refl _, lg, _, _, _, _, rfl, h0.less (.cons_cons _ (List.nil_sublist _))⟩
  · clear h0 hf
    rintro σ M1 ⟨f, w2, w3, w4, w5, rfl, h0⟩
    rw [rng_len, Int.toNat_natCast] at h0
    walk_at "on"
    refine ⟨_, .refl _, k f M1 ?_ (h0.get 0 rfl) h0.sub⟩
    rcases h0.fr _ List.mem_cons_self with q | q
    · exact q
    · cases q

theorem all_or {n k : Nat} (hk : k ≤ n) (hn : n ≤ 4) : (ordL n n).length ≤ 24 := by
  have : ((List.range 5).all fun n => decide ((ordL n n).length ≤ 24)) = true := by decide +kernel
  exact of_decide_eq_true (List.all_eq_true.mp this n (List.mem_range.mpr (by omega)))
/-- an order as a function -/
def fnO (o : List Int) : Nat → Nat := fun k => (o.getD k 0).toNat
theorem fnO_iv {n : Nat} (hn : n ≤ 6) {o : List Int} (h : o ∈ ordL n n) : ∃ q, IV n (fnO o) q ∧ pvO o = ordv n (fnO o) := by
  obtain ⟨p, q, hp, rfl⟩ := of_perm ((ordF hn).perm o h)
  have e : ∀ k, k < n → fnO (orI n p) k = p k := fun k hk => by
    unfold fnO
    rw [getD_get (mk_at hk)]
    exact Int.toNat_natCast _
  refine ⟨q, ⟨fun k hk => by rw [e k hk]; exact hp.lt k hk, hp.lt', fun k hk => by rw [e k hk]; exact hp.qp k hk, fun k hk => by rw [e _ (hp.lt' k hk)]; exact hp.pq k hk⟩, ?_⟩
  show PV.tup ((orI n p).map PV.int) = _
  rw [orI, mk_map]
  exact congrArg PV.tup (mk_congr fun k hk => by rw [← orI, e k hk])
theorem iv_ord {n : Nat} (hn : n ≤ 6) {p q : Nat → Nat} (h : IV n p q) : ∃ o ∈ ordL n n, ∀ k, k < n → fnO o k = p k :=
  ⟨orI n p, ord_in (iv_perm h), fun k hk => by
    unfold fnO
    rw [getD_get (mk_at hk)]
    exact Int.toNat_natCast _⟩
abbrev arO (n0 n1 n2 : Nat) (W : Nat → Int) (C : Nat → Nat → Nat → Str) (x y z : List Int) : PV := tab n0 n1 n2 (fun c => W (fnO x c)) fun i j c => C (fnO y i) (fnO z j) (fnO x c)
def allA (n0 n1 n2 : Nat) (W : Nat → Int) (C : Nat → Nat → Nat → Str) : List PV := (ordL n0 n0).flatMap fun x => (ordL n1 n1).flatMap fun y => (ordL n2 n2).map fun z => arO n0 n1 n2 W C x y z
theorem allA_mem {n0 n1 n2 : Nat} {W : Nat → Int} {C : Nat → Nat → Nat → Str} (b0 : n0 ≤ 4) (b1 : n1 ≤ 4) (b2 : n2 ≤ 4) {T : PV} : T ∈ allA n0 n1 n2 W C ↔ ∃ P R, IV3 n0 n1 n2 P R ∧ T = arrP n0 n1 n2 W C P := by
  unfold allA
  constructor
  · intro h
    obtain ⟨x, hx, h⟩ := List.mem_flatMap.mp h
    obtain ⟨y, hy, h⟩ := List.mem_flatMap.mp h
    obtain ⟨z, hz, rfl⟩ := List.mem_map.mp h
    obtain ⟨q0, i0, _⟩ := fnO_iv (by omega) hx
    obtain ⟨q1, i1, _⟩ := fnO_iv (by omega) hy
    obtain ⟨q2, i2, _⟩ := fnO_iv (by omega) hz
    refine ⟨sel (fnO x) (fnO y) (fnO z), sel q0 q1 q2, ⟨fun k hk => ?_⟩, rfl⟩
    obtain rfl | rfl | rfl : k = 0 ∨ k = 1 ∨ k = 2 := by omega
    · exact i0
    · exact i1
    · exact i2
  · rintro ⟨P, R, h, rfl⟩
    obtain ⟨x, hx, ex⟩ := iv_ord (by show n0 ≤ 6; omega) (h.iv 0 (by decide))
    obtain ⟨y, hy, ey⟩ := iv_ord (by show n1 ≤ 6; omega) (h.iv 1 (by decide))
    obtain ⟨z, hz, ez⟩ := iv_ord (by show n2 ≤ 6; omega) (h.iv 2 (by decide))
    refine List.mem_flatMap.mpr ⟨x, hx, List.mem_flatMap.mpr ⟨y, hy, List.mem_map.mpr ⟨z, hz, ?_⟩⟩⟩
    exact tab_congr (fun c hc => by rw [ex c hc]) fun i j c hi hj hc => by rw [ex c hc, ey i hi, ez j hj]
theorem flat_le {α β : Type} {f : α → List β} {m : Nat} : ∀ {l : List α}, (∀ x ∈ l, (f x).length ≤ m) → (l.flatMap f).length ≤ l.length * m
  | [], _ => by simp
  | x :: l, h => by
    have h1 := h x List.mem_cons_self
    have h2 := flat_le (f := f) (m := m) (l := l) fun y hy => h y (List.mem_cons_of_mem _ hy)
    rw [List.flatMap_cons, List.length_append, List.length_cons, Nat.succ_mul]; omega
theorem flat_snoc {α β : Type} {f : α → List β} {l : List α} {i : Nat} {x : α} (h : l[i]? = some x) : (l.take (i + 1)).flatMap f = (l.take i).flatMap f ++ f x := by
  rw [take_succ' h, List.flatMap_append]; simp
def sp__law_all_arrangements (K : Kf) : PSpec := fun vs M Q _ => ∃ (z : Addr) (n0 n1 n2 : Nat) (W : Nat → Int) (C : Nat → Nat → Nat → Str), vs = [tab n0 n1 n2 W C, .ref z] ∧ M z = some (.lst [.int (n0 : Nat), .int (n1 : Nat), .int (n2 : Nat)]) ∧ n0 ≤ 4 ∧ n1 ≤ 4 ∧ n2 ≤ 4 ∧
  ∀ p M', M p = none → M' p = some (.lst (allA n0 n1 n2 W C)) → Sub M M' → Q (.ref p) M'
theorem sp__law_all_arrangements_len {K : Kf} {vs : List PV} {M : PHp} {Q : PVK} {E : PXK} (h : sp__law_all_arrangements K vs M Q E) : vs.length = 2 := by
  obtain ⟨_, _, _, _, _, _, rfl, _⟩ := h; rfl

theorem ok__law_all_arrangements {P : Program} {w : World} {K : Kf} {mg : Str → Option Value} {base : Heap} (h0 : Here K mg "_law_all_arrangements" s__law_all_arrangements ["table", "sizes"]) (T : Blt mg) (Su : Sure P base) (C__law_arranged : Callee P w K mg base 34 "_law_arranged" ["table", "orders"] (sp__law_arranged K)) (C__law_orders : Callee P w K mg base 34 "_law_orders" ["count"] (sp__law_orders K)) : Callee P w K mg base 35 "_law_all_arrangements" ["table", "sizes"] (sp__law_all_arrangements K) := by
  refine ok_of h0 sc__law_all_arrangements (fun vs M Q E h => sp__law_all_arrangements_len h) (fun f cdv A outer s H E hr => ⟨_, (psscons (psset 2 sc__law_all_arrangements.nd (plst panil))
      (psscons (psfor PassesOwn.never rfl (piseqK (K := K) (pcall C__law_orders (by exact hr.mono (by first | decide | omega)) (pacons (pixK (K := K) (pv 1) pinT) panil))) (pgname (i := 3) sc__law_all_arrangements.nd) (pssone (psfor PassesOwn.never rfl (piseqK (K := K) (pcall C__law_orders (by exact hr.mono (by first | decide | omega)) (pacons (pixK (K := K) (pv 1) pinT) panil))) (pgname (i := 4) sc__law_all_arrangements.nd) (pssone (psfor PassesOwn.never rfl (piseqK (K := K) (pcall C__law_orders (by exact hr.mono (by first | decide | omega)) (pacons (pixK (K := K) (pv 1) pinT) panil))) (pgname (i := 5) sc__law_all_arrangements.nd) (pssone (psexpr (pbmK (K := K) PySem.F.plainAttrs_list PySem.F.slot_list_append PySem.F.type_list_append mAppend (pv 2) (pacons (pcall C__law_arranged (by exact hr.mono (by first | decide | omega)) (pacons (pv 0) (pacons (ptup (pacons (pv 3) (pacons (pv 4) (pacons (pv 5) panil)))) panil))) panil)))))))))
      (pssone (psret (pv 2))))), fun vs M Q Ep h => ?_⟩)
  obtain ⟨z, n0, n1, n2, W, C, rfl, hz, b0, b1, b2, k⟩ := h
  have h0 : Hd [] M M [] := .start
  have l0 := all_or (Nat.le_refl n0) b0
  have l1 := all_or (Nat.le_refl n1) b1
  have l2 := all_or (Nat.le_refl n2) b2
  have sz := sizeLine_eq
  walk_at "go"
  refine ald h0 fun f hf h0 => ?_
  replace h0 := h0 (.lst [])
  have hz1 := h0.sub _ _ hz
  walk_at "on"
  refine ⟨n0, rfl, by omega, fun A M1 hA0 hA1 sb1 => ?_⟩
  replace h0 := h0.addn sb1 hA0 hA1
  walk_at "on"
  refine ⟨fun i σ M' => ∃ w3 w4 w5 : Option PV, σ = [some (tab n0 n1 n2 W C), some (.ref z), some (.ref f), w3, w4, w5] ∧ Hd [] M M' [(f, .lst (((ordL n0 n0).take i).flatMap fun x => (ordL n1 n1).flatMap fun y => (ordL n2 n2).map fun z => arO n0 n1 n2 W C x y z)), (A, .lst ((ordL n0 n0).map pvO))], ⟨_, _, by walk_at "subs", .refl _, _, _, _, rfl, h0.sel [1, 0] (by decide) rfl⟩, fun i σ M' ⟨_, _, _, _, h⟩ => .inl (h.get 1 rfl), ?_, ?_⟩
  · clear h0
    rintro i v σ M2 hx ⟨w3, w4, w5, rfl, h0⟩
    obtain ⟨x, hxx, rfl⟩ := pvO_at hx
    have hi := lt_of_get hxx
    have hz2 := h0.sub _ _ hz
    have fl := flat_le (f := fun x => (ordL n1 n1).flatMap fun y => (ordL n2 n2).map fun z => arO n0 n1 n2 W C x y z) (m := 24 * 24) (l := (ordL n0 n0).take i) fun x _ => by
      refine Nat.le_trans (flat_le (m := 24) fun y _ => by rw [List.length_map]; exact l2) (Nat.mul_le_mul l1 (Nat.le_refl 24))
    rw [List.length_take] at fl
    have fl1 : min i (ordL n0 n0).length * (24 * 24) ≤ 24 * (24 * 24) := Nat.mul_le_mul (by omega) (Nat.le_refl _)
    obtain ⟨q0, v0, e0_⟩ := fnO_iv (n := n0) (by omega) (List.mem_of_getElem? hxx)
    walk_at "on"
    refine ⟨n1, rfl, by omega, fun B M3 hB0 hB1 sb3 => ?_⟩
    replace h0 := h0.addn sb3 hB0 hB1
    walk_at "on"
    refine ⟨fun j σ M' => ∃ w4 w5 : Option PV, σ = [some (tab n0 n1 n2 W C), some (.ref z), some (.ref f), some (pvO x), w4, w5] ∧ Hd [] M M' [(f, .lst ((((ordL n0 n0).take i).flatMap fun x => (ordL n1 n1).flatMap fun y => (ordL n2 n2).map fun z => arO n0 n1 n2 W C x y z) ++ ((ordL n1 n1).take j).flatMap fun y => (ordL n2 n2).map fun z => arO n0 n1 n2 W C x y z)), (A, .lst ((ordL n0 n0).map pvO)), (B, .lst ((ordL n1 n1).map pvO))], ⟨_, _, by walk_at "subs", .refl _, _, _, rfl, by simpa using h0.sel [1, 2, 0] (by decide) rfl⟩, fun i σ M' ⟨_, _, _, h⟩ => .inl (h.get 2 rfl), ?_, ?_⟩
    · clear h0
      rintro j v σ M4 hy ⟨w4, w5, rfl, h0⟩
      obtain ⟨y, hyy, rfl⟩ := pvO_at hy
      have hj := lt_of_get hyy
      have hz3 := h0.sub _ _ hz
      have fl2 := flat_le (f := fun y => (ordL n2 n2).map fun z => arO n0 n1 n2 W C x y z) (m := 24) (l := (ordL n1 n1).take j) fun y _ => by rw [List.length_map]; exact l2
      rw [List.length_take] at fl2
      have fl3 : min j (ordL n1 n1).length * 24 ≤ 24 * 24 := Nat.mul_le_mul (by omega) (Nat.le_refl _)
      obtain ⟨q1, v1, e1_⟩ := fnO_iv (n := n1) (by omega) (List.mem_of_getElem? hyy)
      walk_at "on"
      refine ⟨n2, rfl, by omega, fun D M5 hD0 hD1 sb5 => ?_⟩
      replace h0 := h0.addn sb5 hD0 hD1
      walk_at "on"
      refine ⟨fun l σ M' => ∃ w5 : Option PV, σ = [some (tab n0 n1 n2 W C), some (.ref z), some (.ref f), some (pvO x), some (pvO y), w5] ∧ Hd [] M M' [(f, .lst ((((ordL n0 n0).take i).flatMap fun x => (ordL n1 n1).flatMap fun y => (ordL n2 n2).map fun z => arO n0 n1 n2 W C x y z) ++ (((ordL n1 n1).take j).flatMap fun y => (ordL n2 n2).map fun z => arO n0 n1 n2 W C x y z) ++ ((ordL n2 n2).take l).map fun z => arO n0 n1 n2 W C x y z)), (A, .lst ((ordL n0 n0).map pvO)), (B, .lst ((ordL n1 n1).map pvO)), (D, .lst ((ordL n2 n2).map pvO))], ⟨_, _, by walk_at "subs", .refl _, _, rfl, by simpa using h0.sel [1, 2, 3, 0] (by decide) rfl⟩, fun i σ M' ⟨_, _, h⟩ => .inl (h.get 3 rfl), ?_, ?_⟩
      · clear h0
        rintro l v σ M6 hu ⟨w5, rfl, h0⟩
        obtain ⟨u, huu, rfl⟩ := pvO_at hu
        have hl := lt_of_get huu
        obtain ⟨q2, v2, e2_⟩ := fnO_iv (n := n2) (by omega) (List.mem_of_getElem? huu)
        walk_at "on"
        refine ⟨n0, n1, n2, W, C, fnO x, fnO y, fnO u, by rw [e0_, e1_, e2_], by omega, by omega, by omega, v0.lt, v1.lt, v2.lt, ?_⟩
        walk_at "on"
        refine ⟨_, h0.get 0 rfl, by rw [List.length_append, List.length_append, List.length_map, List.length_take]; omega, ?_⟩
        refine ⟨_, _, by walk_at "subs", .refl _, _, rfl, ?_⟩
        rw [take_succ' huu, List.map_append, ← List.append_assoc]
        exact h0.up0
      · clear h0
        rintro σ M6 ⟨w5, rfl, h0⟩
        rw [List.length_map, List.take_length] at h0
        refine ⟨_, _, by walk_at "subs", .refl _, _, _, rfl, ?_⟩
        rw [flat_snoc hyy, ← List.append_assoc]
        exact h0.less (by simp)
    · clear h0
      rintro σ M4 ⟨w4, w5, rfl, h0⟩
      rw [List.length_map, List.take_length] at h0
      refine ⟨_, _, by walk_at "subs", .refl _, _, _, _, rfl, ?_⟩
      rw [flat_snoc hxx]
      exact h0.less (by simp)
  · clear h0
    rintro σ M2 ⟨w3, w4, w5, rfl, h0⟩
    rw [List.length_map, List.take_length] at h0
    walk_at "on"
    exact ⟨_, .refl _, k f _ hf (h0.get 0 rfl) h0.sub⟩

def sp__law_least (K : Kf) : PSpec := fun vs M Q _ => ∃ (p : Addr) (F : List PV) (n0 n1 n2 : Nat), vs = [.ref p] ∧ M p = some (.lst F) ∧ F ≠ [] ∧ n0 ≤ 1000 ∧ n1 ≤ 1000 ∧ n2 ≤ 1000 ∧ (∀ x ∈ F, ∃ W C, x = tab n0 n1 n2 W C) ∧
  ∀ x M', x ∈ F → (∀ y ∈ F, ltV y x = false) → Sub M M' → Q x M'
theorem sp__law_least_len {K : Kf} {vs : List PV} {M : PHp} {Q : PVK} {E : PXK} (h : sp__law_least K vs M Q E) : vs.length = 1 := by
  obtain ⟨_, _, _, _, _, rfl, _⟩ := h; rfl

theorem ok__law_least {P : Program} {w : World} {K : Kf} {mg : Str → Option Value} {base : Heap} (h0 : Here K mg "_law_least" s__law_least ["tables"]) (T : Blt mg) (Su : Sure P base)  : Callee P w K mg base 34 "_law_least" ["tables"] (sp__law_least K) := by
  refine ok_of h0 sc__law_least (fun vs M Q E h => sp__law_least_len h) (fun f cdv A outer s H E hr => ⟨_, (psscons (psset 1 sc__law_least.nd (pixK (K := K) (pv 0) pinT))
      (psscons (psfor PassesOwn.never rfl (piseqK (K := K) (pv 0)) (pgname (i := 2) sc__law_least.nd) (pssone (psif (ptcmp (opLtD (K := K) (by exact hr.units)) (pv 2) (pv 1) (nomark _)) (pssone (psset 1 sc__law_least.nd (pv 2))) pssnil)))
      (pssone (psret (pv 1))))), fun vs M Q Ep h => ?_⟩)
  obtain ⟨p, F, n0, n1, n2, rfl, hp, hne, b0, b1, b2, hF, k⟩ := h
  have h0 : Hd [] M M [] := .start
  obtain ⟨x0, hx0⟩ : ∃ x, F[0]? = some x := ⟨_, List.getElem?_eq_getElem (List.length_pos_iff.mpr hne)⟩
  have a0 : atI F 0 = some x0 := atI_nat (j := 0) hx0
  have tx : ∀ x ∈ F, TxtD 40 x := fun x hx => by
    obtain ⟨W, C, rfl⟩ := hF x hx
    exact (tx_tab (k := 0) b0 b1 b2).more (by decide)
  have al : ∀ x ∈ F, ∀ y ∈ F, alV x y := fun x hx y hy => by
    obtain ⟨W, C, rfl⟩ := hF x hx
    obtain ⟨W', C', rfl⟩ := hF y hy
    exact al_tab
  walk_at "go"
  refine ⟨fun i σ M' => ∃ (x : PV) (w2 : Option PV), σ = [some (.ref p), some x, w2] ∧ x ∈ F ∧ (∀ y ∈ F.take i, ltV y x = false) ∧ Hd [] M M' [], ⟨_, _, by walk_at "subs", .refl _, x0, _, rfl, List.mem_of_getElem? hx0, by simp, h0⟩, fun i σ M' ⟨_, _, _, _, _, h⟩ => .inl (h.sub _ _ hp), ?_, ?_⟩
  · clear h0
    rintro i y σ M1 hy ⟨x, w2, rfl, hx, hl, h0⟩
    have hym := List.mem_of_getElem? hy
    walk_at "on"
    refine ⟨(tx y hym).pure, (tx x hx).pure, al y hym x hx, (fun h => by obtain ⟨W, C, rfl⟩ := hF y hym; cases h), ?_⟩
    refine br_of (fun h => ?_) (fun h => ?_)
    · walk_at "on"
      refine ⟨_, _, by walk_at "subs", .refl _, y, _, rfl, hym, fun u hu => ?_, h0⟩
      rw [take_succ' hy] at hu
      rcases List.mem_append.mp hu with hu | hu
      · cases e : ltV u y with
        | false => rfl
        | true =>
          have := ltV_trans e h
          rw [hl u hu] at this; cases this
      · rw [List.mem_singleton.mp hu]; exact ltV_irr y
    · refine ⟨_, _, by walk_at "subs", .refl _, x, _, rfl, hx, fun u hu => ?_, h0⟩
      rw [take_succ' hy] at hu
      rcases List.mem_append.mp hu with hu | hu
      · exact hl u hu
      · rw [List.mem_singleton.mp hu]; exact h
  · clear h0
    rintro σ M1 ⟨x, w2, rfl, hx, hl, h0⟩
    rw [List.take_length] at hl
    walk_at "on"
    exact ⟨_, .refl _, k x _ hx hl h0.sub⟩

theorem ord3_at {n0 n1 n2 k : Nat} {P : Nat → Nat → Nat} (hk : k ≤ 2) : atI [ordv n0 (P 0), ordv n1 (P 1), ordv n2 (P 2)] (k : Int) = some (ordv (sel n0 n1 n2 k) (P k)) := by
  obtain rfl | rfl | rfl : k = 0 ∨ k = 1 ∨ k = 2 := by omega
  all_goals rfl
def sp__law_are_orders (K : Kf) : PSpec := fun vs M Q _ => ∃ (z : Addr) (n0 n1 n2 : Nat) (P R : Nat → Nat → Nat), vs = [ord3 n0 n1 n2 P, .ref z] ∧ M z = some (.lst [.int (n0 : Nat), .int (n1 : Nat), .int (n2 : Nat)]) ∧ n0 ≤ 1000 ∧ n1 ≤ 1000 ∧ n2 ≤ 1000 ∧ IV3 n0 n1 n2 P R ∧
  ∀ M', Sub M M' → Q (.bl true) M'
theorem sp__law_are_orders_len {K : Kf} {vs : List PV} {M : PHp} {Q : PVK} {E : PXK} (h : sp__law_are_orders K vs M Q E) : vs.length = 2 := by
  obtain ⟨_, _, _, _, _, _, rfl, _⟩ := h; rfl

theorem ok__law_are_orders {P : Program} {w : World} {K : Kf} {mg : Str → Option Value} {base : Heap} (h0 : Here K mg "_law_are_orders" s__law_are_orders ["told", "sizes"]) (T : Blt mg) (Su : Sure P base)  : Callee P w K mg base 34 "_law_are_orders" ["told", "sizes"] (sp__law_are_orders K) := by
  refine ok_of h0 sc__law_are_orders (fun vs M Q E h => sp__law_are_orders_len h) (fun f cdv A outer s H E hr => ⟨_, (psscons (psifc (PW.pt (pwor (ptnot (ptval (pcallB (cIsiK (K := K)) (by rfl) T.b_isinstance (by decide +kernel) (pacons (pv 0) (pacons (pbltn (p := .ty "tuple") (v := .ty "tuple") (by rfl) T.b_tuple (by decide +kernel) rfl (fun _ => .ty _)) panil))))) (pwor1 (ptcmp (opNeK (K := K) (by exact hr.units)) (pcallB (cLenK (K := K)) (by rfl) T.b_len (by decide +kernel) (pacons (pv 0) panil)) pinT (nomark _))))) (pssone (psret pbl)) pssnil)
      (psscons (psfor PassesOwn.never rfl (pirng1 (by rfl) T.b_range (pacons pinT panil)) (pgname (i := 2) sc__law_are_orders.nd) (psscons (psifc (PW.pt (pwor (ptnot (ptval (pcallB (cIsiK (K := K)) (by rfl) T.b_isinstance (by decide +kernel) (pacons (pixK (K := K) (pv 0) (pv 2)) (pacons (pbltn (p := .ty "tuple") (v := .ty "tuple") (by rfl) T.b_tuple (by decide +kernel) rfl (fun _ => .ty _)) panil))))) (pwor1 (ptcmp (opNeK (K := K) (by exact hr.units)) (pcallB (cLenK (K := K)) (by rfl) T.b_len (by decide +kernel) (pacons (pixK (K := K) (pv 0) (pv 2)) panil)) (pixK (K := K) (pv 1) (pv 2)) (nomark _))))) (pssone (psret pbl)) pssnil)
      (psscons (psfor PassesOwn.never rfl (piseqK (K := K) (pixK (K := K) (pv 0) (pv 2))) (pgname (i := 3) sc__law_are_orders.nd) (pssone (psif (PW.pt (pwor (ptnot (ptval (pcallB (cIsiK (K := K)) (by rfl) T.b_isinstance (by decide +kernel) (pacons (pv 3) (pacons (pbltn (p := .ty "int") (v := .ty "int") (by rfl) T.b_int (by decide +kernel) rfl (fun _ => .ty _)) panil))))) (pwor1 (ptval (pcallB (cIsiK (K := K)) (by rfl) T.b_isinstance (by decide +kernel) (pacons (pv 3) (pacons (pbltn (p := .ty "bool") (v := .ty "bool") (by rfl) T.b_bool (by decide +kernel) rfl (fun _ => .ty _)) panil))))))) (pssone (psret pbl)) pssnil)))
      (pssone (psif (ptcmp (opNeK (K := K) (by exact hr.units)) (pcallB (cSortIK (K := K)) (by rfl) T.b_sorted (by decide +kernel) (pacons (pixK (K := K) (pv 0) (pv 2)) panil)) (plistRg rfl (by rfl) T.b_list (prg1 (by rfl) T.b_range (pixK (K := K) (pv 1) (pv 2)))) (nomark _)) (pssone (psret pbl)) pssnil)))))
      (pssone (psret pbl)))), fun vs M Q Ep h => ?_⟩)
  obtain ⟨z, n0, n1, n2, P, R, rfl, hz, b0, b1, b2, hP, k⟩ := h
  have h0 : Hd [] M M [] := .start
  walk_at "go"
  refine ⟨fun b M' => b = false ∧ M' = M, ?_, ?_⟩
  · walk_at "on"
    exact ⟨_, .refl _, rfl, rfl⟩
  rintro b M' ⟨rfl, rfl⟩
  walk_at "on"
  refine ⟨by decide, ?_⟩
  refine ⟨fun i σ M1 => ∃ w2 w3 : Option PV, σ = [some (ord3 n0 n1 n2 P), some (.ref z), w2, w3] ∧ Hd [] M' M1 [], ⟨_, _, by walk_at "subs", .refl _, _, _, rfl, h0⟩, ?_, ?_, ?_⟩
  · intros; trivial
  · clear h0
    rintro i x σ M1 hx ⟨w2, w3, rfl, h0⟩
    obtain ⟨hi, rfl⟩ := rng_get hx
    have hi : i < 3 := hi
    rw [show (0 : Int) + (i : Int) = (i : Int) by omega]
    have a1 := ord3_at (n0 := n0) (n1 := n1) (n2 := n2) (k := i) (P := P) (by omega)
    have a2 := sel_at (n0 := n0) (n1 := n1) (n2 := n2) (o := i) (by omega)
    have sl := sel_le (o := i) b0 b1 b2
    have hv := hP.iv i (by omega)
    have hz1 := h0.sub _ _ hz
    walk_at "on"
    refine ⟨fun b M2 => b = false ∧ M2 = M1, ?_, ?_⟩
    · walk_at "on"
      refine ⟨_, .refl _, ?_, rfl⟩
      rw [mk_len]; simp
    rintro b M2 ⟨rfl, rfl⟩
    walk_at "on"
    refine ⟨fun j σ M' => ∃ w3 : Option PV, σ = [some (ord3 n0 n1 n2 P), some (.ref z), some (.int (i : Int)), w3] ∧ M' = M2, ⟨_, _, by walk_at "subs", .refl _, _, rfl, rfl⟩, fun _ _ _ _ => trivial, ?_, ?_⟩
    · rintro j x σ M3 hx ⟨w3, rfl, rfl⟩
      obtain ⟨hj, rfl⟩ := mk_get hx
      walk_at "on"
      exact ⟨_, _, by walk_at "subs", .refl _, _, rfl, rfl⟩
    rintro σ M3 ⟨w3, rfl, rfl⟩
    walk_at "on"
    refine ⟨orI _ (P i), by show _ = List.map PV.int (PL.mk _ _); rw [mk_map], fun ms q hms hso hq => ?_⟩
    have e : ms = iota (sel n0 n1 n2 i) := perm_sorted (hms.trans (iv_perm hv)) hso (iota_sorted _)
    subst e
    replace h0 := h0.new (o := .lst ((iota (sel n0 n1 n2 i)).map PV.int)) hq
    have hz2 := h0.sub _ _ hz
    walk_at "on"
    refine ⟨.of_le (by decide) (by omega) (by decide) (by omega), ?_⟩
    refine ald h0 fun D hD h0 => ?_
    replace h0 := h0 (.lst ((iota (sel n0 n1 n2 i)).map PV.int))
    rw [show ((sel n0 n1 n2 i : Nat) : Int) - 0 = (sel n0 n1 n2 i : Nat) by omega, Int.toNat_natCast, rng_iota]
    refine eqd_lists (.inl (h0.get 1 rfl)) (.inl (h0.get 0 rfl)) ?_
    rw [decide_eq_true rfl]
    walk_at "on"
    exact ⟨_, _, by walk_at "subs", .refl _, _, _, rfl, h0.less (by simp)⟩
  · clear h0
    rintro σ M1 ⟨w2, w3, rfl, h0⟩
    walk_at "on"
    exact ⟨_, .refl _, k _ h0.sub⟩

/-- T is the least arrangement -/
def IsLeast (n0 n1 n2 : Nat) (W : Nat → Int) (C : Nat → Nat → Nat → Str) (T : PV) : Prop := (∃ S R, IV3 n0 n1 n2 S R ∧ T = arrP n0 n1 n2 W C S) ∧ ∀ S R, IV3 n0 n1 n2 S R → ltV (arrP n0 n1 n2 W C S) T = false
theorem IsLeast.eq {n0 n1 n2 : Nat} {W : Nat → Int} {C : Nat → Nat → Nat → Str} {T U : PV} (b0 : n0 ≤ 1000) (b1 : n1 ≤ 1000) (b2 : n2 ≤ 1000) (h : IsLeast n0 n1 n2 W C T) (h' : IsLeast n0 n1 n2 W C U) : T = U := by
  obtain ⟨⟨S, R, hS, rfl⟩, h⟩ := h
  obtain ⟨⟨S', R', hS', rfl⟩, h'⟩ := h'
  exact ltV_tot (n := 5) (m := 5) al_tab (tx_tab (k := 0) b0 b1 b2) (tx_tab (k := 0) b0 b1 b2) (h' S R hS) (h S' R' hS')
theorem IV3.comp {n0 n1 n2 : Nat} {P R S T : Nat → Nat → Nat} (h : IV3 n0 n1 n2 P R) (h' : IV3 n0 n1 n2 S T) : IV3 n0 n1 n2 (fun k i => P k (S k i)) (fun k i => T k (R k i)) := ⟨fun k hk => by
  have a := h.iv k hk
  have b := h'.iv k hk
  exact ⟨fun i hi => a.lt _ (b.lt i hi), fun i hi => b.lt' _ (a.lt' i hi), fun i hi => by show T k (R k (P k (S k i))) = i; rw [a.qp _ (b.lt i hi), b.qp i hi], fun i hi => by show P k (S k (T k (R k i))) = i; rw [b.pq _ (a.lt' i hi), a.pq i hi]⟩⟩
theorem IV3.symm {n0 n1 n2 : Nat} {P R : Nat → Nat → Nat} (h : IV3 n0 n1 n2 P R) : IV3 n0 n1 n2 R P := ⟨fun k hk => (h.iv k hk).symm⟩
theorem IsLeast.arr {n0 n1 n2 : Nat} {W : Nat → Int} {C : Nat → Nat → Nat → Str} {T : PV} (h : IsLeast n0 n1 n2 W C T) {P R : Nat → Nat → Nat} (hP : IV3 n0 n1 n2 P R) : IsLeast n0 n1 n2 (fun c => W (P 0 c)) (fun i j c => C (P 1 i) (P 2 j) (P 0 c)) T := by
  obtain ⟨⟨S, R', hS, rfl⟩, h⟩ := h
  refine ⟨⟨_, _, hP.symm.comp hS, ?_⟩, fun S' R'' hS' => h _ _ (hP.comp hS')⟩
  have lt : ∀ k i, k ≤ 2 → i < sel n0 n1 n2 k → P k (R k (S k i)) = S k i := fun k i hk hi => (hP.iv k hk).pq _ ((hS.iv k hk).lt i hi)
  exact tab_congr (fun c hc => by show _ = W (P 0 (R 0 (S 0 c))); rw [lt 0 c (by decide) hc]) fun i j c hi hj hc => by
    show _ = C (P 1 (R 1 (S 1 i))) (P 2 (R 2 (S 2 j))) (P 0 (R 0 (S 0 c)))
    rw [lt 0 c (by decide) hc, lt 1 i (by decide) hi, lt 2 j (by decide) hj]
def sp__law_least_told (K : Kf) : PSpec := fun vs M Q _ => ∃ (z : Addr) (n0 n1 n2 : Nat) (W : Nat → Int) (C : Nat → Nat → Nat → Str) (T : PV), vs = [tab n0 n1 n2 W C, .ref z, T] ∧ M z = some (.lst [.int (n0 : Nat), .int (n1 : Nat), .int (n2 : Nat)]) ∧
  1 ≤ n0 ∧ 1 ≤ n1 ∧ 1 ≤ n2 ∧ n0 * n1 * n2 ≤ 32 ∧ IsLeast n0 n1 n2 W C T ∧ ∀ M', Sub M M' → Q (.bl true) M'
theorem sp__law_least_told_len {K : Kf} {vs : List PV} {M : PHp} {Q : PVK} {E : PXK} (h : sp__law_least_told K vs M Q E) : vs.length = 3 := by
  obtain ⟨_, _, _, _, _, _, _, rfl, _⟩ := h; rfl

theorem ok__law_least_told {P : Program} {w : World} {K : Kf} {mg : Str → Option Value} {base : Heap} (h0 : Here K mg "_law_least_told" s__law_least_told ["table", "sizes", "least"]) (T : Blt mg) (Su : Sure P base) (C__law_are_orders : Callee P w K mg base 34 "_law_are_orders" ["told", "sizes"] (sp__law_are_orders K)) (C__law_arranged : Callee P w K mg base 34 "_law_arranged" ["table", "orders"] (sp__law_arranged K)) (C__law_told : Callee P w K mg base 54 "_law_told" ["answer", "due"] (sp__law_told K 20)) (C_least_arrangement : Callee P w K mg base 36 "least_arrangement" ["table"] (sp_least_arrangement K)) : Callee P w K mg base 55 "_law_least_told" ["table", "sizes", "least"] (sp__law_least_told K) := by
  refine ok_of h0 sc__law_least_told (fun vs M Q E h => sp__law_least_told_len h) (fun f cdv A outer s H E hr => ⟨_, (psscons (psset 3 sc__law_least_told.nd (pcall C_least_arrangement (by exact hr.mono (by first | decide | omega)) (pacons (pv 0) panil)))
      (psscons (psifc (PW.pt (pwor (ptnot (ptval (pcallB (cIsiK (K := K)) (by rfl) T.b_isinstance (by decide +kernel) (pacons (pv 3) (pacons (pbltn (p := .ty "tuple") (v := .ty "tuple") (by rfl) T.b_tuple (by decide +kernel) rfl (fun _ => .ty _)) panil))))) (pwor (ptcmp (opNeK (K := K) (by exact hr.units)) (pcallB (cLenK (K := K)) (by rfl) T.b_len (by decide +kernel) (pacons (pv 3) panil)) pinT (nomark _)) (pwor1 (ptnot (ptval (pcall C__law_are_orders (by exact hr.mono (by first | decide | omega)) (pacons (pixK (K := K) (pv 3) pinT) (pacons (pv 1) panil))))))))) (pssone (psret pbl)) pssnil)
      (pssone (psret (pand (pcall C__law_told (by exact hr.mono (by first | decide | omega)) (pacons (pixK (K := K) (pv 3) pinT) (pacons (pv 2) panil))) (pone (pcmp (opEqD (K := K) (by exact hr.units)) (pcall C__law_arranged (by exact hr.mono (by first | decide | omega)) (pacons (pv 0) (pacons (pixK (K := K) (pv 3) pinT) panil))) (pv 2) (nomark _)))))))), fun vs M Q Ep h => ?_⟩)
  obtain ⟨z, n0, n1, n2, W, C, T, rfl, hz, g0, g1, g2, hp, hT, k⟩ := h
  obtain ⟨b0, b1, b2⟩ := all32 g0 g1 g2 hp
  have h0 : Hd [] M M [] := .start
  have b0' : n0 ≤ 1000 := by omega
  have b1' : n1 ≤ 1000 := by omega
  have b2' : n2 ≤ 1000 := by omega
  walk_at "go"
  refine ⟨n0, n1, n2, W, C, rfl, g0, g1, g2, hp, fun P R M1 hP least sb1 => ?_⟩
  replace h0 := h0.step sb1
  have e : arrP n0 n1 n2 W C P = T := IsLeast.eq b0' b1' b2' ⟨⟨P, R, hP, rfl⟩, least⟩ hT
  subst e
  have tx : TxtD 40 (arrP n0 n1 n2 W C P) := (tx_tab (k := 0) b0' b1' b2').more (by decide)
  walk_at "on"
  refine ⟨fun b M' => b = false ∧ Hd [] M M' [], ?_, ?_⟩
  · walk_at "on"
    refine br_f rfl ?_
    walk_at "on"
    refine ⟨z, n0, n1, n2, P, R, rfl, h0.sub _ _ hz, b0', b1', b2', hP, fun M2 sb2 => ?_⟩
    walk_at "on"
    exact ⟨_, .refl _, rfl, h0.step sb2⟩
  clear h0
  rintro b M2 ⟨rfl, h0⟩
  walk_at "on"
  refine ⟨_, _, rfl, PureD.td (n := 20) ((tx_tab (k := 0) b0' b1' b2').more (by decide)).pure, ?_⟩
  refine br_t rfl ?_
  walk_at "on"
  refine ⟨n0, n1, n2, W, C, P 0, P 1, P 2, rfl, b0', b1', b2', (hP.iv 0 (by decide)).lt, (hP.iv 1 (by decide)).lt, (hP.iv 2 (by decide)).lt, ?_⟩
  walk_at "on"
  refine ⟨tx, tx, fun b hb => ?_⟩
  have : b = true := hb.mpr rfl
  subst this
  exact ⟨_, .refl _, k _ h0.sub⟩

theorem cut_to10 {α : Type} (l : List α) (i : Nat) : cutL l none (some (i : Int)) = l.take i := by
  unfold cutL
  rw [HT.sIx_none, HT.sIx_nat]
  by_cases h : i ≤ l.length
  · rw [Nat.min_eq_left h]; simp
  · rw [Nat.min_eq_right (by omega), List.take_of_length_le (l := l) (i := i) (by omega)]; simp
theorem DpsP.get_ {K : Kf} {M : PHp} : ∀ {l : List PV} {ds : List PyData} {i : Nat} {x : PV}, DpsP K M l ds → l[i]? = some x → ∃ d, ds[i]? = some d ∧ DpP K M x d
  | _, _, _, _, .nil, h => by simp at h
  | _, _, 0, x, .cons h _, e => by simp at e; subst e; exact ⟨_, rfl, h⟩
  | _, _, i + 1, x, .cons _ t, e => by
    obtain ⟨d, h1, h2⟩ := DpsP.get_ (i := i) t (by simpa using e)
    exact ⟨d, by simpa using h1, h2⟩
theorem DpsP.take_ {K : Kf} {M : PHp} : ∀ {l : List PV} {ds : List PyData} (i : Nat), DpsP K M l ds → DpsP K M (l.take i) (ds.take i)
  | _, _, 0, _ => by rw [List.take_zero, List.take_zero]; exact .nil
  | _, _, _ + 1, .nil => .nil
  | _, _, i + 1, .cons h t => .cons h (DpsP.take_ i t)
theorem plainAll_take : ∀ {ds : List PyData} (i : Nat), PyData.plainAll ds = true → PyData.plainAll (ds.take i) = true
  | _, 0, _ => rfl
  | [], _ + 1, _ => rfl
  | d :: ds, i + 1, h => by
    have h : (d.plain && PyData.plainAll ds) = true := h
    rw [Bool.and_eq_true] at h
    show (d.plain && PyData.plainAll (ds.take i)) = true
    rw [h.1, plainAll_take i h.2]; rfl
theorem plainAll_get : ∀ {ds : List PyData} {i : Nat} {d : PyData}, PyData.plainAll ds = true → ds[i]? = some d → d.plain = true
  | [], _, _, _, h => by simp at h
  | x :: ds, i, d, h, e => by
    have h : (x.plain && PyData.plainAll ds) = true := h
    rw [Bool.and_eq_true] at h
    cases i with
    | zero => simp at e; subst e; exact h.1
    | succ i => exact plainAll_get h.2 (by simpa using e)
theorem DpsP.len_ {K : Kf} {M : PHp} : ∀ {l : List PV} {ds : List PyData}, DpsP K M l ds → ds.length = l.length
  | _, _, .nil => rfl
  | _, _, .cons _ t => congrArg (· + 1) (DpsP.len_ t)
/-- the parts of the classes of chance, as lists -/
abbrev flc (n1 n2 : Nat) (C : Nat → Nat → Nat → Str) (c : Nat) : List PV := (List.range n1).flatMap fun i => mk n2 fun j => PV.str (C i j c)
def ptR (n1 n2 : Nat) (C : Nat → Nat → Nat → Str) : Nat → List Addr → List (Addr × MO)
  | _, [] => []
  | k, g :: G => (g, .lst (flc n1 n2 C k)) :: ptR n1 n2 C (k + 1) G
theorem ptR_snoc {n1 n2 : Nat} {C : Nat → Nat → Nat → Str} {g : Addr} : ∀ {G : List Addr} {k : Nat}, ptR n1 n2 C k (G ++ [g]) = ptR n1 n2 C k G ++ [(g, .lst (flc n1 n2 C (k + G.length)))]
  | [], k => rfl
  | a :: G, k => by
    rw [List.cons_append, ptR, ptR, ptR_snoc, List.length_cons, show k + 1 + G.length = k + (G.length + 1) by omega]; rfl
theorem ptR_dps {K : Kf} {M : PHp} {n1 n2 : Nat} {C : Nat → Nat → Nat → Str} : ∀ {G : List Addr} {k : Nat}, (∀ x ∈ ptR n1 n2 C k G, M x.1 = some x.2) → DpsP K M (G.map PV.ref) ((List.range G.length).map fun j => .list (toDs (flc n1 n2 C (k + j))))
  | [], k, _ => .nil
  | g :: G, k, h => by
    rw [List.length_cons, List.range_succ_eq_map, List.map_cons, List.map_cons, List.map_map]
    have h1 := h _ List.mem_cons_self
    refine .cons (.lst (.inl h1) (dps_all (n := 2) fun x hx => ?_)) ?_
    · obtain ⟨i, j, _, _, rfl⟩ := flS_mem hx
      exact .str _
    · have := ptR_dps (K := K) (M := M) (n1 := n1) (n2 := n2) (C := C) (G := G) (k := k + 1) fun x hx => h x (List.mem_cons_of_mem _ hx)
      have e : ((List.range G.length).map fun j => PyData.list (toDs (flc n1 n2 C (k + 1 + j)))) = (List.range G.length).map ((fun j => PyData.list (toDs (flc n1 n2 C (k + j)))) ∘ Nat.succ) := List.map_congr_left fun j _ => by
        show PyData.list (toDs (flc n1 n2 C (k + 1 + j))) = PyData.list (toDs (flc n1 n2 C (k + Nat.succ j)))
        rw [show k + 1 + j = k + Nat.succ j by omega]
      rw [← e]; exact this
/-- no part stands there twice -/
def NoTw (ds : List PyData) : Prop := ∀ (k : Nat) (d : PyData), ds[k]? = some d → ((ds.take k).any fun z => PyData.eqv z d) = false
theorem NoTw.ne {ds : List PyData} (h : NoTw ds) {i j : Nat} {x y : PyData} (hij : i < j) (hi : ds[i]? = some x) (hj : ds[j]? = some y) : PyData.eqv x y = false := by
  have := List.any_eq_false.mp (h j y hj) x (List.mem_of_getElem? (i := i) (by rw [List.getElem?_take, if_pos hij]; exact hi))
  simpa using this
theorem NoTw.txt {n m : Nat} {f : Nat → PV} (h : NoTw (toDs (mk n f))) (tx : ∀ i, TxtD m (f i)) : ∀ i j, i < n → j < n → f i = f j → i = j := by
  have key : ∀ i j, i < j → j < n → f i ≠ f j := fun i j hij hj e => by
    have g : ∀ i, i < n → (toDs (mk n f))[i]? = some (toD (f i)) := fun i hi => by rw [toDs_map, List.getElem?_map, mk_at hi]; rfl
    have := h.ne hij (g i (by omega)) (g j hj)
    rw [(TxtD.eqv (tx i) (tx j)).mpr e] at this; cases this
  intro i j hi hj e
  rcases Nat.lt_trichotomy i j with q | q | q
  · exact absurd e (key i j q hj)
  · exact q
  · exact absurd e.symm (key j i q hi)
theorem NoTw.lst {n n1 n2 : Nat} {C : Nat → Nat → Nat → Str} (h : NoTw ((List.range n).map fun j => .list (toDs (flc n1 n2 C (0 + j))))) (b : n1 * n2 ≤ 1000000) : ∀ i j, i < n → j < n → (∀ x y, x < n1 → y < n2 → C x y i = C x y j) → i = j := by
  have key : ∀ i j, i < j → j < n → ¬ (∀ x y, x < n1 → y < n2 → C x y i = C x y j) := fun i j hij hj e => by
    have g : ∀ i, i < n → ((List.range n).map fun j => PyData.list (toDs (flc n1 n2 C (0 + j))))[i]? = some (.list (toDs (flc n1 n2 C i))) := fun i hi => by rw [List.getElem?_map, List.getElem?_range hi, Option.map_some, Nat.zero_add]
    have h1 := h.ne hij (g i (by omega)) (g j hj)
    have h2 : PyData.eqv (toD (flS n1 n2 fun x y => C x y i)) (toD (flS n1 n2 fun x y => C x y j)) = true := (TxtD.eqv (tx_flS (k := 1) b) (tx_flS (k := 1) b)).mpr (flS_congr fun x hx y hy => e x y hx hy)
    have h3 : PyData.eqv (.list (toDs (flc n1 n2 C i))) (.list (toDs (flc n1 n2 C j))) = PyData.eqv (toD (flS n1 n2 fun x y => C x y i)) (toD (flS n1 n2 fun x y => C x y j)) := by
      show PyData.eqv (.list _) (.list _) = PyData.eqv (.tuple _) (.tuple _)
      rw [PyData.eqv, PyData.eqv]
    rw [h3, h2] at h1; cases h1
  intro i j hi hj e
  rcases Nat.lt_trichotomy i j with q | q | q
  · exact absurd e (key i j q hj)
  · exact q
  · exact absurd (fun x y hx hy => (e x y hx hy).symm) (key j i q hi)

/-- a table as the law hands it on -/
structure TB (ws : List Int) (C : Cub) (w n : Nat) : Prop where
  ne : ws ≠ []
  ln : ws.length ≤ 1000
  sm : ∀ x ∈ ws, x.natAbs < 2 ^ 200
  sh : Sh C w n
  lc : C.length < 64
  lw : w < 64
  ln2 : n < 64
abbrev tbV (ws : List Int) (C : Cub) : PV := .tup [.tup (ws.map PV.int), cuV C]
theorem tx_strs (k : Nat) (l : List Str) (h : l.length ≤ 16777216) : TxtD (k + 2) (.tup (l.map PV.str)) := .tup (by rw [List.length_map]; exact h) fun x hx => by
  obtain ⟨y, _, rfl⟩ := List.mem_map.mp hx
  exact .str y
theorem tx_sl {C : Cub} {w n o : Nat} (sh : Sh C w n) (ho : o ≤ 2) {x : PV} (hx : x ∈ slL C w n o) : TxtD 40 x := by
  have lc := sh.lc
  have lw := sh.lw
  have ln := sh.ln
  obtain ⟨i, hi, rfl⟩ := List.mem_map.mp hx
  have hi := List.mem_range.mp hi
  have row : ∀ r ∈ C, TxtD 39 (rwV r) := fun r hr => .tup (by rw [List.length_map, sh.rw r hr]; omega) fun x hx => by
    obtain ⟨e, he, rfl⟩ := List.mem_map.mp hx
    exact tx_strs 36 e (by rw [sh.en r hr e he]; omega)
  unfold slP
  unfold slN at hi
  obtain rfl | rfl | rfl : o = 0 ∨ o = 1 ∨ o = 2 := by omega
  · rw [if_neg (by decide), if_neg (by decide)]
    refine .tup ?_ fun x hx => by
      obtain ⟨y, _, rfl⟩ := List.mem_map.mp hx
      exact .str _
    rw [List.length_map, flat_len sh C fun _ h => h]
    have : C.length * w ≤ 1000 * 1000 := Nat.mul_le_mul lc lw
    omega
  · rw [if_pos rfl]
    have h := List.getElem?_eq_getElem (l := C) (show i < C.length from hi)
    rw [getD_get h]
    exact (row _ (List.getElem_mem _)).more (by decide)
  · rw [if_neg (by decide), if_pos rfl]
    refine .tup (by rw [List.length_map]; omega) fun x hx => by
      obtain ⟨r, hr, rfl⟩ := List.mem_map.mp hx
      have hl := sh.rw r hr
      have hi : i < w := hi
      have h := List.getElem?_eq_getElem (l := r) (show i < r.length by omega)
      rw [getD_get h]
      exact tx_strs 37 _ (by rw [sh.en r hr _ (List.getElem_mem _)]; omega)
theorem nodup_take {α : Type} {l : List α} : l.Nodup ↔ ∀ (k : Nat) x, l[k]? = some x → x ∉ l.take k := by
  rw [List.nodup_iff_pairwise_ne, List.pairwise_iff_getElem]
  constructor
  · intro h k x hk hm
    obtain ⟨j, hj, e⟩ := List.getElem_of_mem hm
    rw [List.length_take] at hj
    rw [List.getElem_take] at e
    have hkl := lt_of_get hk
    have e2 : l[k] = x := Option.some.inj ((List.getElem?_eq_getElem hkl).symm.trans hk)
    exact h j k (by omega) hkl (by omega) (e.trans e2.symm)
  · intro h i j hi hj hij e
    refine h j l[j] (List.getElem?_eq_getElem hj) ?_
    rw [← e]
    exact List.mem_of_getElem? (i := i) (by rw [List.getElem?_take, if_pos hij]; exact List.getElem?_eq_getElem hi)
def sp__law_is_reduced (K : Kf) : PSpec := fun vs M Q _ => ∃ (ws : List Int) (C : Cub) (w n : Nat), vs = [tbV ws C] ∧ TB ws C w n ∧ ∀ b M', (b = true ↔ RedP ws C w n) → Sub M M' → Q (.bl b) M'
theorem sp__law_is_reduced_len {K : Kf} {vs : List PV} {M : PHp} {Q : PVK} {E : PXK} (h : sp__law_is_reduced K vs M Q E) : vs.length = 1 := by
  obtain ⟨_, _, _, _, rfl, _⟩ := h; rfl

theorem ok__law_is_reduced {P : Program} {w : World} {K : Kf} {mg : Str → Option Value} {base : Heap} (h0 : Here K mg "_law_is_reduced" s__law_is_reduced ["table"]) (T : Blt mg) (Su : Sure P base) (C__law_reduced : Callee P w K mg base 35 "_law_reduced" ["weights"] (sp__law_reduced K)) (C__law_slices : Callee P w K mg base 34 "_law_slices" ["cube", "owner"] (sp__law_slices K)) : Callee P w K mg base 36 "_law_is_reduced" ["table"] (sp__law_is_reduced K) := by
  refine ok_of h0 sc__law_is_reduced (fun vs M Q E h => sp__law_is_reduced_len h) (fun f cdv A outer s H E hr => ⟨_, (psscons (psifc (PW.pt (pwor (ptcmp (opLt (by exact hr.units0)) (pcallB (cMinK (K := K) rfl) (by rfl) T.b_min (by decide +kernel) (pacons (pixK (K := K) (pv 0) pinT) panil)) pinT (nomark _)) (pwor1 (ptcmp (opNeD (K := K) (by exact hr.units)) (pcall C__law_reduced (by exact hr.mono (by first | decide | omega)) (pacons (pixK (K := K) (pv 0) pinT) panil)) (pixK (K := K) (pv 0) pinT) (nomark _))))) (pssone (psret pbl)) pssnil)
      (psscons (psfor PassesOwn.never rfl (pirng1 (by rfl) T.b_range (pacons pinT panil)) (pgname (i := 1) sc__law_is_reduced.nd) (psscons (psset 2 sc__law_is_reduced.nd (pcall C__law_slices (by exact hr.mono (by first | decide | omega)) (pacons (pixK (K := K) (pv 0) pinT) (pacons (pv 1) panil))))
      (pssone (psif (ptcmp opGt (pcallB (cLenK (K := K)) (by rfl) T.b_len (by decide +kernel) (pacons (plc1 3 rfl sc__law_is_reduced.nd (pirng1 (by rfl) T.b_range (pacons (pcallB (cLenK (K := K)) (by rfl) T.b_len (by decide +kernel) (pacons (pv 2) panil)) panil)) (blkOk_by (own := [("k", 3)]) (N := ["table", "owner", "parts", "k"]) (sc := defScope s__law_is_reduced) (by decide +kernel)) (by decide) (fun _ _ _ _ _ => pg_name (i := 3) sc__law_is_reduced.nd rfl (Or.inl rfl)) (fun _ _ _ _ _ => (ptsone (ptcmp (opInD (K := K) (by exact hr.units)) (pixK (K := K) (pv 2) (pv 3)) (pslice (pv 2) ponone (posome (pv 3))) rfl))) (fun _ _ _ _ _ => (pv 3))) panil)) pinT (nomark _)) (pssone (psret pbl)) pssnil))))
      (pssone (psret pbl)))), fun vs M Q Ep h => ?_⟩)
  obtain ⟨ws, C, w, n, rfl, tb, k⟩ := h
  have h0 : Hd [] M M [] := .start
  have hl := tb.ln
  have sh := tb.sh
  walk_at "go"
  refine ⟨fun b M' => (b = true ↔ ¬ ((∀ x ∈ ws, 1 ≤ x) ∧ IsRed ws ws)) ∧ M' = M, ?_, ?_⟩
  · walk_at "on"
    refine ⟨ws, rfl, ?_⟩
    refine ⟨List.length_pos_iff.mpr tb.ne, fun m hm least => ?_⟩
    walk_at "on"
    refine br_dec (fun h => ?_) (fun h => ?_)
    · exact ⟨_, .refl _, ⟨fun _ r => by have := r.1 m hm; omega, fun _ => rfl⟩, rfl⟩
    walk_at "on"
    refine ⟨_, ws, rfl, .inl rfl, ⟨hl, fun x hx => ⟨by have := least x hx; omega, tb.sm x hx⟩⟩, fun rs hrs => ?_⟩
    have rl := hrs.len
    walk_at "on"
    have tx : ∀ l : List Int, l.length ≤ 1000 → TxtD 40 (.tup (l.map PV.int)) := fun l h => .tup (by rw [List.length_map]; omega) fun x hx => (by obtain ⟨z, _, rfl⟩ := List.mem_map.mp hx; exact .int _)
    refine ⟨tx _ (by omega), tx _ hl, fun b hb => ⟨_, .refl _, hb.trans ⟨fun ne r => ne ?_, fun nr e => nr ⟨fun x hx => by have := least x hx; omega, ?_⟩⟩, rfl⟩⟩
    · rw [hrs.fnl r.2]
    · rw [pv_ints (PV.tup.inj e)] at hrs; exact hrs
  rintro b M' ⟨hb, rfl⟩
  refine br_of (fun h => ?_) (fun h => ?_)
  · walk_at "on"
    refine ⟨_, .refl _, k false _ ⟨fun e => (by cases e), fun r => absurd ⟨r.1, r.2.1⟩ (hb.mp h)⟩ (.refl _)⟩
  have good : (∀ x ∈ ws, 1 ≤ x) ∧ IsRed ws ws := Classical.byContradiction fun q => by rw [hb.mpr q] at h; cases h
  clear hb h
  walk_at "on"
  refine ⟨by decide, ?_⟩
  refine ⟨fun i σ M1 => ∃ w3 w4 w5 : Option PV, σ = [some (tbV ws C), w3, w4, w5] ∧ (∀ o, o < i → (slL C w n o).Nodup) ∧ Hd [] M' M1 [], ⟨_, _, by walk_at "subs", .refl _, _, _, _, rfl, fun o h => absurd h (Nat.not_lt_zero o), h0⟩, fun _ _ _ _ => trivial, ?_, ?_⟩
  · clear h0
    rintro i x σ M1 hx ⟨w3, w4, w5, rfl, nd, h0⟩
    obtain ⟨hi, rfl⟩ := rng_get hx
    have hi : i < 3 := hi
    rw [show (0 : Int) + (i : Int) = (i : Int) by omega]
    walk_at "on"
    refine ⟨C, w, n, i, rfl, sh, by omega, fun p M2 hp0 hp1 sb2 => ?_⟩
    have few : (slL C w n i).length < 64 := by
      rw [sl_len]; unfold slN; split
      · exact tb.lc
      · split
        · exact tb.lw
        · exact tb.ln2
    have txl : ∀ x ∈ slL C w n i, TxtD 40 x := fun x hx => tx_sl sh (by omega) hx
    replace h0 := h0.addn sb2 hp0 hp1
    generalize hL : slL C w n i = L at few hp1 h0 txl
    walk_at "on"
    refine ⟨by omega, ?_⟩
    refine ald h0 fun D hD h0 => ?_
    replace h0 := h0 (.lst [])
    refine ⟨fun j acc M3 => (acc = [] ↔ ∀ (k' : Nat) x, k' < j → L[k']? = some x → x ∉ L.take k') ∧ acc.length ≤ j ∧ Hd [] M' M3 [(D, .lst acc), (p, .lst L)], ⟨_, .refl _, by simp, by simp, h0⟩, fun _ _ _ _ => trivial, ?_, ?_⟩
    · clear h0 hp1
      rintro j v acc M3 hv ⟨hacc, al, h0⟩
      obtain ⟨hj, rfl⟩ := rng_get hv
      have hj : j < L.length := by omega
      obtain ⟨x, hx⟩ : ∃ x, L[j]? = some x := ⟨_, List.getElem?_eq_getElem hj⟩
      have hp3 := h0.get 1 rfl
      have a1 : atI L (j : Int) = some x := atI_nat hx
      rw [show (0 : Int) + (j : Int) = (j : Int) by omega]
      walk_at "on"
      refine ald h0 fun T hT h0 => ?_
      replace h0 := h0 (.lst (L.take j))
      rw [cut_to10]
      have hT1 := h0.get 0 rfl
      walk_at "on"
      have sz := sizeLine_eq
      refine ⟨txl x (List.mem_of_getElem? hx), fun z hz => txl z (List.mem_of_mem_take hz), fun b hb => ?_⟩
      rw [if_neg (by decide)]
      refine br_of (fun h => ?_) (fun h => ?_)
      · walk_at "on"
        refine ⟨h0.get 1 rfl, by omega, _, .refl _, ⟨fun e => by simp at e, fun q => absurd (hb.mp h) (q j x (by omega) hx)⟩, by rw [List.length_append, List.length_singleton]; omega, h0.up1.less (by simp)⟩
      · refine ⟨_, .refl _, hacc.trans ⟨fun q k' y hk hy => ?_, fun q k' y hk => q k' y (by omega)⟩, by omega, h0.less (by simp)⟩
        rcases Nat.lt_or_ge k' j with g | g
        · exact q k' y g hy
        · have e : k' = j := by omega
          subst e
          rw [hx] at hy
          cases hy
          intro m
          rw [hb.mpr m] at h; cases h
    · clear h0 hp1
      rintro acc M3 ⟨hacc, al, h0⟩
      rw [rng_len] at al hacc
      walk_at "on"
      refine br_of (fun h => ?_) (fun h => ?_)
      · walk_at "on"
        refine ⟨_, .refl _, k false _ ⟨fun e => (by cases e), fun r => ?_⟩ h0.sub⟩
        have := hacc.mpr fun k' x _ hk => nodup_take.mp (hL ▸ r.2.2 i (by omega)) k' x hk
        subst this
        simp at h
      · refine ⟨_, _, by walk_at "subs", .refl _, _, _, _, rfl, fun o ho => ?_, h0.less (by simp)⟩
        rcases Nat.lt_or_ge o i with q | q
        · exact nd o q
        · have e : o = i := by omega
          subst e
          rw [hL]
          have ea : acc = [] := by
            have h := of_decide_eq_false h
            exact List.length_eq_zero_iff.mp (by omega)
          refine nodup_take.mpr fun k' x hk => hacc.mp ea k' x ?_ hk
          have := lt_of_get hk
          omega
  · clear h0
    rintro σ M1 ⟨w3, w4, w5, rfl, nd, h0⟩
    walk_at "on"
    exact ⟨_, .refl _, k true _ ⟨fun _ => ⟨good.1, good.2, fun o ho => nd o (by show o < 3; omega)⟩, fun _ => rfl⟩ h0.sub⟩

def sp__law_reduced_told (K : Kf) : PSpec := fun vs M Q _ => ∃ (ws : List Int) (C : Cub) (w n : Nat), vs = [tbV ws C] ∧ TB ws C w n ∧ ∀ M', Sub M M' → Q (.bl true) M'
theorem sp__law_reduced_told_len {K : Kf} {vs : List PV} {M : PHp} {Q : PVK} {E : PXK} (h : sp__law_reduced_told K vs M Q E) : vs.length = 1 := by
  obtain ⟨_, _, _, _, rfl, _⟩ := h; rfl

theorem ok__law_reduced_told {P : Program} {w : World} {K : Kf} {mg : Str → Option Value} {base : Heap} (h0 : Here K mg "_law_reduced_told" s__law_reduced_told ["table"]) (T : Blt mg) (Su : Sure P base) (C__law_is_reduced : Callee P w K mg base 36 "_law_is_reduced" ["table"] (sp__law_is_reduced K)) (C_is_reduced : Callee P w K mg base 35 "is_reduced" ["table"] (sp_is_reduced K)) : Callee P w K mg base 37 "_law_reduced_told" ["table"] (sp__law_reduced_told K) := by
  refine ok_of h0 sc__law_reduced_told (fun vs M Q E h => sp__law_reduced_told_len h) (fun f cdv A outer s H E hr => ⟨_, (psscons (psset 1 sc__law_reduced_told.nd (pcall C_is_reduced (by exact hr.mono (by first | decide | omega)) (pacons (pv 0) panil)))
      (pssone (psret (pand (pcallB (cIsiK (K := K)) (by rfl) T.b_isinstance (by decide +kernel) (pacons (pv 1) (pacons (pbltn (p := .ty "bool") (v := .ty "bool") (by rfl) T.b_bool (by decide +kernel) rfl (fun _ => .ty _)) panil))) (pone (pcmp (opEqK (K := K) (by exact hr.units)) (pv 1) (pcall C__law_is_reduced (by exact hr.mono (by first | decide | omega)) (pacons (pv 0) panil)) (nomark _))))))), fun vs M Q Ep h => ?_⟩)
  obtain ⟨ws, C, w, n, rfl, tb, k⟩ := h
  walk_at "go"
  refine ⟨ws, C, w, n, rfl, tb.ne, tb.ln, tb.sh, tb.lc, tb.lw, tb.ln2, fun b M1 hb sb1 => ?_⟩
  walk_at "on"
  refine ⟨ws, C, w, n, rfl, tb, fun b' M2 hb' sb2 => ?_⟩
  have e : b = b' := by
    cases b <;> cases b' <;> simp_all
  subst e
  walk_at "on"
  rw [decide_eq_true rfl]
  exact ⟨_, .refl _, k _ (sb1.trans sb2)⟩

def sp__law_spoilt_weights (K : Kf) : PSpec := fun vs M Q _ => ∃ (a s : Addr) (ns ws : List Int), vs = [.ref a, .ref s, .tup (ws.map PV.int)] ∧ Env K M a s ns ∧ ws ≠ [] ∧ ws.length ≤ 1000 ∧ (∀ x ∈ ws, x.natAbs < 2 ^ 200) ∧
  ∀ (us : List Int) M', us.length = ws.length → (∀ x ∈ us, x.natAbs < 2 ^ 200) → Env K M' a s ns → Keep s M M' → Q (.tup (us.map PV.int)) M'
theorem sp__law_spoilt_weights_len {K : Kf} {vs : List PV} {M : PHp} {Q : PVK} {E : PXK} (h : sp__law_spoilt_weights K vs M Q E) : vs.length = 3 := by
  obtain ⟨_, _, _, _, rfl, _⟩ := h; rfl

theorem ok__law_spoilt_weights {P : Program} {w : World} {K : Kf} {mg : Str → Option Value} {base : Heap} (h0 : Here K mg "_law_spoilt_weights" s__law_spoilt_weights ["script", "source", "weights"]) (T : Blt mg) (Su : Sure P base) (C__law_draw : Callee P w K mg base 34 "_law_draw" ["script", "source", "limit"] (sp__law_draw K)) : Callee P w K mg base 35 "_law_spoilt_weights" ["script", "source", "weights"] (sp__law_spoilt_weights K) := by
  refine ok_of h0 sc__law_spoilt_weights (fun vs M Q E h => sp__law_spoilt_weights_len h) (fun f cdv A outer s H E hr => ⟨_, (psscons (psset 3 sc__law_spoilt_weights.nd (pcallTy (cListK (K := K)) (by rfl) T.b_list (by decide +kernel) (pacons (pv 2) panil)))
      (psscons (psasg (pop opSub pinT (pcall C__law_draw (by exact hr.mono (by first | decide | omega)) (pacons (pv 0) (pacons (pv 1) (pacons pinT panil))))) (pgsub (pv 3) (pcall C__law_draw (by exact hr.mono (by first | decide | omega)) (pacons (pv 0) (pacons (pv 1) (pacons (pcallB (cLenK (K := K)) (by rfl) T.b_len (by decide +kernel) (pacons (pv 3) panil)) panil))))))
      (pssone (psret (pcallTy (cTupleK (K := K)) (by rfl) T.b_tuple (by decide +kernel) (pacons (pv 3) panil)))))), fun vs M Q Ep h => ?_⟩)
  obtain ⟨a, s, ns, ws, rfl, e, hne, hl, hs, k⟩ := h
  have he := He.start e
  have wl : (ws.map PV.int).length = ws.length := List.length_map _
  have wp := List.length_pos_iff.mpr hne
  walk_at "go"
  refine al he fun c hc he => ?_
  replace he := he (.lst (ws.map PV.int))
  walk_at "on"
  refine dr he (by decide) (by decide) fun r M1 r0 r1 he => ?_
  have hc1 := he.get 0 rfl
  walk_at "on"
  refine dr he (by omega) (bits64 (by omega)) fun i M2 i0 i1 he => ?_
  have hc2 := he.get 0 rfl
  walk_at "on"
  rw [wl] at i1
  refine ⟨_, i.toNat, hc2, by rw [wl]; exact ixN_in i0 i1, ?_⟩
  have ib : i.toNat < ws.length := by omega
  rw [show (ws.map PV.int).set i.toNat (.int (0 - r)) = (ws.set i.toNat (0 - r)).map PV.int by rw [List.map_set]]
  replace he := he.up0 (o' := .lst ((ws.set i.toNat (0 - r)).map PV.int))
  have hc3 := he.get 0 rfl
  walk_at "on"
  refine ⟨_, .refl _, k _ _ (by rw [List.length_set]) (fun x hx => ?_) he.env he.keep⟩
  rcases List.mem_or_eq_of_mem_set hx with h | h
  · exact hs x h
  · subst h
    have p : (3 : Nat) < 2 ^ 200 := by decide
    omega

def sp__law_repeated (K : Kf) : PSpec := fun vs M Q _ => ∃ (ws : List Int) (C : Cub), vs = [tbV ws C] ∧ ws.length ≤ 1000 ∧ C.length ≤ 1000 ∧ (∀ r ∈ C, r.length ≤ 1000 ∧ ∀ e ∈ r, e.length ≤ 1000) ∧
  ∀ p M', M p = none → M' p = some (.lst [tbV ws (C ++ C.take 1), tbV ws (C.map fun r => r ++ r.take 1), tbV (ws ++ [1]) (C.map fun r => r.map fun e => e ++ e.take 1)]) → Sub M M' → Q (.ref p) M'
theorem sp__law_repeated_len {K : Kf} {vs : List PV} {M : PHp} {Q : PVK} {E : PXK} (h : sp__law_repeated K vs M Q E) : vs.length = 1 := by
  obtain ⟨_, _, rfl, _⟩ := h; rfl
theorem Hd.none0 {M0 M : PHp} {L : List (Addr × MO)} {p : Addr} (h : Hd [] M0 M L) (hp : M p = none) : M0 p = none := by
  cases e : M0 p with
  | none => rfl
  | some u => rw [h.sub p u e] at hp; cases hp
theorem cut_1 {α : Type} (l : List α) : cutL l none (some 1) = l.take 1 := cut_to10 l 1

theorem ok__law_repeated {P : Program} {w : World} {K : Kf} {mg : Str → Option Value} {base : Heap} (h0 : Here K mg "_law_repeated" s__law_repeated ["table"]) (T : Blt mg) (Su : Sure P base)  : Callee P w K mg base 34 "_law_repeated" ["table"] (sp__law_repeated K) := by
  refine ok_of h0 sc__law_repeated (fun vs M Q E h => sp__law_repeated_len h) (fun f cdv A outer s H E hr => ⟨_, (psscons (psasg (pv 0) (pgtup rfl (pgscons (pgname (i := 1) sc__law_repeated.nd) (pgscons (pgname (i := 2) sc__law_repeated.nd) pgsnil))))
      (psscons (psset 3 sc__law_repeated.nd (pcallTy (cTupleK (K := K)) (by rfl) T.b_tuple (by decide +kernel) (pacons (plcP  rfl sc__law_repeated.nd (piseqK (K := K) (pv 2)) (blkOk_by (own := [("layer", 5)]) (N := ["table", "weights", "cells", "wider", "deeper", "layer", "entries"]) (sc := defScope s__law_repeated) (by decide +kernel)) (tgName (by decide)) (fun _ _ _ _ _ => (pg_name (i := 5) sc__law_repeated.nd rfl (by first | exact Or.inl rfl | exact Or.inr rfl))) (fun _ _ _ _ _ => (pop opAdd (pv 5) (pslice (pv 5) ponone (posome pinT))))) panil)))
      (psscons (psset 4 sc__law_repeated.nd (plst panil))
      (psscons (psfor PassesOwn.never rfl (piseqK (K := K) (pv 2)) (pgname (i := 5) sc__law_repeated.nd) (pssone (psexpr (pbmK (K := K) PySem.F.plainAttrs_list PySem.F.slot_list_append PySem.F.type_list_append mAppend (pv 4) (pacons (pcallTy (cTupleK (K := K)) (by rfl) T.b_tuple (by decide +kernel) (pacons (plcP  rfl sc__law_repeated.nd (piseqK (K := K) (pv 5)) (blkOk_by (own := [("entries", 6)]) (N := ["table", "weights", "cells", "wider", "deeper", "layer", "entries"]) (sc := defScope s__law_repeated) (by decide +kernel)) (tgName (by decide)) (fun _ _ _ _ _ => (pg_name (i := 6) sc__law_repeated.nd rfl (by first | exact Or.inl rfl | exact Or.inr rfl))) (fun _ _ _ _ _ => (pop opAdd (pv 6) (pslice (pv 6) ponone (posome pinT))))) panil)) panil)))))
      (pssone (psret (plst (pacons (ptup (pacons (pv 1) (pacons (pop opAdd (pv 2) (pslice (pv 2) ponone (posome pinT))) panil))) (pacons (ptup (pacons (pv 1) (pacons (pv 3) panil))) (pacons (ptup (pacons (pop opAdd (pv 1) (ptup (pacons pinT panil))) (pacons (pcallTy (cTupleK (K := K)) (by rfl) T.b_tuple (by decide +kernel) (pacons (pv 4) panil)) panil))) panil)))))))))), fun vs M Q Ep h => ?_⟩)
  obtain ⟨ws, C, rfl, hl, cl, hC, k⟩ := h
  have h0 : Hd [] M M [] := .start
  have sz := sizeLine_eq
  have cl2 : (C.map rwV).length = C.length := List.length_map _
  walk_at "go"
  refine ⟨fun i => rwV (C.getD i [] ++ (C.getD i []).take 1), by omega, fun _ _ => trivial, fun i x M2 Q2 hx sb k2 => ?_, fun D l hD hl => ?_⟩
  · obtain ⟨r, hr, rfl⟩ := rw_at hx
    have rl := (hC r (List.mem_of_getElem? hr)).1
    refine ⟨_, rfl, ?_⟩
    dsimp only at k2
    rw [getD_get hr] at k2
    walk_at "on"
    rw [cut_1, ← List.map_take, ← List.map_append]
    refine ⟨by rw [List.length_map, List.length_map, List.length_take]; omega, k2 _ (.refl _)⟩
  rw [cl2, mk_list C [] (fun r => rwV (r ++ r.take 1))] at hl
  subst hl
  replace h0 := h0.new (o := .lst (C.map fun r => rwV (r ++ r.take 1))) hD
  walk_at "on"
  refine ald h0 fun dp hdp h0 => ?_
  replace h0 := h0 (.lst [])
  walk_at "on"
  refine ⟨fun i σ M' => ∃ w5 w6 : Option PV, σ = [some (tbV ws C), some (.tup (ws.map PV.int)), some (cuV C), some (.tup (C.map fun r => rwV (r ++ r.take 1))), some (.ref dp), w5, w6] ∧ Hd [] M M' [(dp, .lst ((C.take i).map fun r => rwV (r.map fun e => e ++ e.take 1)))], ⟨_, _, by walk_at "subs", .refl _, _, _, rfl, h0.less (by simp)⟩, fun _ _ _ _ => trivial, ?_, ?_⟩
  · clear h0
    rintro i x σ M1 hx ⟨w5, w6, rfl, h0⟩
    obtain ⟨r, hr, rfl⟩ := rw_at hx
    have hi := lt_of_get hr
    obtain ⟨rl, re⟩ := hC r (List.mem_of_getElem? hr)
    have rl2 : (r.map enV).length = r.length := List.length_map _
    walk_at "on"
    refine ⟨fun i => enV (r.getD i [] ++ (r.getD i []).take 1), by omega, fun _ _ => trivial, fun i x M2 Q2 hx sb k2 => ?_, fun D2 l hD2 hl => ?_⟩
    · obtain ⟨e, he, rfl⟩ := en_at hx
      have el := re e (List.mem_of_getElem? he)
      refine ⟨_, rfl, ?_⟩
      dsimp only at k2
      rw [getD_get he] at k2
      walk_at "on"
      rw [cut_1, ← List.map_take, ← List.map_append]
      refine ⟨by rw [List.length_map, List.length_map, List.length_take]; omega, k2 _ (.refl _)⟩
    rw [rl2, mk_list r [] (fun e => enV (e ++ e.take 1))] at hl
    subst hl
    replace h0 := h0.new (o := .lst (r.map fun e => enV (e ++ e.take 1))) hD2
    walk_at "on"
    refine ⟨_, h0.get 1 rfl, by rw [List.length_map, List.length_take]; omega, ?_⟩
    refine ⟨_, _, by walk_at "subs", .refl _, _, _, rfl, ?_⟩
    rw [take_succ' hr, List.map_append]
    have e : (r.map fun e => enV (e ++ e.take 1)) = (r.map fun e => e ++ e.take 1).map enV := by rw [List.map_map]; rfl
    rw [e] at h0 ⊢
    exact h0.up1.less (by simp)
  clear h0
  rintro σ M1 ⟨w5, w6, rfl, h0⟩
  rw [cl2, List.take_length] at h0
  have hd1 := h0.get 0 rfl
  walk_at "on"
  rw [cut_1, ← List.map_take, ← List.map_append]
  refine ⟨by rw [List.length_map, List.length_map, List.length_take]; omega, ?_⟩
  walk_at "on"
  refine ⟨by rw [List.length_map, List.length_singleton]; omega, ?_⟩
  walk_at "on"
  intro p hp
  have q := h0.new (o := .lst [tbV ws (C ++ C.take 1), tbV ws (C.map fun r => r ++ r.take 1), tbV (ws ++ [1]) (C.map fun r => r.map fun e => e ++ e.take 1)]) hp
  have e1 : (C.map fun r => rwV (r ++ r.take 1)) = (C.map fun r => r ++ r.take 1).map rwV := by rw [List.map_map]; rfl
  have e2 : (C.map fun r => rwV (r.map fun e => e ++ e.take 1)) = (C.map fun r => r.map fun e => e ++ e.take 1).map rwV := by rw [List.map_map]; rfl
  have e3 : ws.map PV.int ++ [.int 1] = (ws ++ [1]).map PV.int := by rw [List.map_append]; rfl
  rw [e1, e2, e3]
  refine ⟨_, .refl _, k p _ (Hd.none0 h0 hp) (q.get 0 rfl) q.sub⟩

theorem int_mem {us : List Int} {r : Int} (h0 : 0 ≤ r) (h1 : r < (us.length : Int)) : ∃ q, q ∈ us ∧ atI (us.map PV.int) r = some (.int q) := by
  obtain ⟨q, h2, h3, _⟩ := at_mem h0 h1
  obtain ⟨m, rfl⟩ : ∃ m : Nat, r = (m : Int) := ⟨r.toNat, by omega⟩
  rw [Int.toNat_natCast] at h3
  exact ⟨q, h2, atI_nat (by rw [List.getElem?_map, h3]; rfl)⟩
theorem IsRed.range {ws rs : List Int} (h : IsRed ws rs) (hw : ∀ w ∈ ws, 1 ≤ w ∧ w ≤ 6) : ∀ r ∈ rs, 1 ≤ r ∧ r ≤ 6 := by
  cases h with
  | zero hz e => rw [e]; exact hw
  | pos g hg e h =>
    intro r hr
    have := hw (g * r) (by rw [e]; exact List.mem_map_of_mem hr)
    obtain ⟨h1, h2⟩ := this
    have r0 : 0 < r := by
      rcases Int.lt_trichotomy r 0 with q | q | q
      · have := Int.mul_neg_of_pos_of_neg hg q; omega
      · subst q; simp at h1
      · exact q
    have h3 : 1 * r ≤ g * r := Int.mul_le_mul_of_nonneg_right (by omega) (by omega)
    omega

/-! cells that change -/
section
variable {K : Kf} {S : List Addr} {M0 M : PHp} {A L L' : List (Addr × MO)} {a s p : Addr} {ns : List Int} {o o' : MO} {x : Addr × MO} {n0 n2 : Nat}
theorem He.wr (h : He K S a s ns M0 M (A ++ L)) (hp : (p, o) ∈ L) : ∃ L', He K S a s ns M0 (updM M p o') (A ++ L') ∧ (p, o') ∈ L' ∧ (∀ q u, (q, u) ∈ L → q ≠ p → (q, u) ∈ L') ∧ ∀ u, (p, u) ∈ L → u = o := by
  have at_ := h.hd.ats
  have one : ∀ u, (p, u) ∈ L → u = o := fun u hu => by
    have e1 := at_ _ (List.mem_append_right A hp)
    have e2 := at_ _ (List.mem_append_right A hu)
    exact Option.some.inj (e2.symm.trans e1)
  obtain ⟨L1, L2, rfl⟩ := List.append_of_mem hp
  rw [← List.append_assoc] at h
  have q := h.put (o' := o')
  rw [List.append_assoc] at q
  refine ⟨_, q, List.mem_append_right _ List.mem_cons_self, fun r u hr ne => ?_, one⟩
  rcases List.mem_append.mp hr with g | g
  · exact List.mem_append_left _ g
  · rcases List.mem_cons.mp g with e | g
    · cases e; exact absurd rfl ne
    · exact List.mem_append_right _ (List.mem_cons_of_mem _ g)
theorem He.mv (h : He K S a s ns M0 M (x :: (A ++ L))) : He K S a s ns M0 M (A ++ x :: L) := h.perm List.perm_middle.symm
/-- a list of n0 texts; a list of n2 such -/
def En (n0 : Nat) (L : List (Addr × MO)) (e : Addr) : Prop := ∃ xs : List Str, xs.length = n0 ∧ (e, MO.lst (xs.map PV.str)) ∈ L
def Ly (n0 n2 : Nat) (L : List (Addr × MO)) (l : Addr) : Prop := ∃ Es : List Addr, Es.length = n2 ∧ (l, MO.lst (Es.map PV.ref)) ∈ L ∧ ∀ e ∈ Es, En n0 L e
theorem En.mono {e : Addr} (h : En n0 L e) (m : ∀ x ∈ L, x ∈ L') : En n0 L' e := by
  obtain ⟨xs, h1, h2⟩ := h
  exact ⟨xs, h1, m _ h2⟩
theorem Ly.mono {l : Addr} (h : Ly n0 n2 L l) (m : ∀ x ∈ L, x ∈ L') : Ly n0 n2 L' l := by
  obtain ⟨Es, h1, h2, h3⟩ := h
  exact ⟨Es, h1, m _ h2, fun e he => (h3 e he).mono m⟩
theorem str_ref {xs : List Str} {Es : List Addr} (g0 : 1 ≤ xs.length) : MO.lst (xs.map PV.str) ≠ MO.lst (Es.map PV.ref) := fun e => by
  injection e with e
  cases xs with
  | nil => exact absurd g0 (by decide)
  | cons x xs => cases Es with
    | nil => cases e
    | cons y Es => cases e
theorem He.wrE (g0 : 1 ≤ n0) (h : He K S a s ns M0 M (A ++ L)) (he : En n0 L p) {ys : List Str} (hy : ys.length = n0) : ∃ L', He K S a s ns M0 (updM M p (.lst (ys.map PV.str))) (A ++ L') ∧ ∀ l, Ly n0 n2 L l → Ly n0 n2 L' l := by
  obtain ⟨xs, h1, h2⟩ := he
  obtain ⟨L', q1, q2, q3, q4⟩ := h.wr (o' := .lst (ys.map PV.str)) h2
  refine ⟨L', q1, fun l hl => ?_⟩
  obtain ⟨Es, h3, h4, h5⟩ := hl
  have lp : l ≠ p := fun e => str_ref (by omega) (q4 _ (e ▸ h4)).symm
  refine ⟨Es, h3, q3 _ _ h4 lp, fun e he => ?_⟩
  obtain ⟨zs, z1, z2⟩ := h5 e he
  by_cases ep : e = p
  · exact ⟨ys, hy, ep ▸ q2⟩
  · exact ⟨zs, z1, q3 _ _ z2 ep⟩
theorem He.wrL (g0 : 1 ≤ n0) (h : He K S a s ns M0 M (A ++ L)) (hl : Ly n0 n2 L p) {Fs : List Addr} (hf : Fs.length = n2) (hF : ∀ e ∈ Fs, En n0 L e) : ∃ L', He K S a s ns M0 (updM M p (.lst (Fs.map PV.ref))) (A ++ L') ∧ ∀ l, Ly n0 n2 L l → Ly n0 n2 L' l := by
  obtain ⟨Es, h3, h4, h5⟩ := hl
  obtain ⟨L', q1, q2, q3, q4⟩ := h.wr (o' := .lst (Fs.map PV.ref)) h4
  have en : ∀ e, En n0 L e → En n0 L' e := fun e he => by
    obtain ⟨xs, z1, z2⟩ := he
    exact ⟨xs, z1, q3 _ _ z2 fun e => str_ref (by omega) (q4 _ (e ▸ z2))⟩
  refine ⟨L', q1, fun l hl => ?_⟩
  by_cases lp : l = p
  · exact ⟨Fs, hf, lp ▸ q2, fun e he => en e (hF e he)⟩
  · obtain ⟨Gs, z1, z2, z3⟩ := hl
    exact ⟨Gs, z1, q3 _ _ z2 lp, fun e he => en e (z3 e he)⟩
end
theorem ex_list {α β : Type} (g : β → α) : ∀ {l : List α}, (∀ x ∈ l, ∃ b, x = g b) → ∃ l' : List β, l = l'.map g
  | [], _ => ⟨[], rfl⟩
  | x :: l, h => by
    obtain ⟨b, rfl⟩ := h x List.mem_cons_self
    obtain ⟨l', rfl⟩ := ex_list g fun y hy => h y (List.mem_cons_of_mem _ hy)
    exact ⟨b :: l', rfl⟩
theorem ex_mk {α β : Type} (g : β → α) (d : β) {l : List α} {n : Nat} (hl : l.length = n) (h : ∀ x ∈ l, ∃ b, x = g b) : ∃ f : Nat → β, l = mk n fun i => g (f i) := by
  obtain ⟨l', rfl⟩ := ex_list g h
  rw [List.length_map] at hl
  subst hl
  refine ⟨fun i => l'.getD i d, ?_⟩
  conv => lhs; rw [mk_of l' d, mk_map]
abbrev cellV (n0 : Nat) (f : Nat → Str) : PV := .tup (mk n0 fun c => .str (f c))
abbrev rowV (n0 n2 : Nat) (f : Nat → Nat → Str) : PV := .tup (mk n2 fun j => cellV n0 (f j))
theorem ref_at {Ls : List Addr} {i : Nat} (h : i < Ls.length) : ∃ l, l ∈ Ls ∧ Ls[i]? = some l ∧ atI (Ls.map PV.ref) (i : Int) = some (.ref l) :=
  have e := List.getElem?_eq_getElem h
  ⟨_, List.getElem_mem h, e, atI_nat (by rw [List.getElem?_map, e]; rfl)⟩
theorem ixN_nat {n i : Nat} (h : i < n) : ixN n (i : Int) = some i := by
  rw [ixN_in (Int.natCast_nonneg i) (by omega), Int.toNat_natCast]
theorem skol {α β : Type} (d : β) {P : α → Prop} {R : α → β → Prop} (h : ∀ a, P a → ∃ b, R a b) : ∃ f : α → β, ∀ a, P a → R a (f a) := by
  have q : ∀ a, ∃ b, P a → R a b := fun a => by
    by_cases p : P a
    · obtain ⟨b, hb⟩ := h a p
      exact ⟨b, fun _ => hb⟩
    · exact ⟨d, fun z => absurd z p⟩
  exact Classical.axiomOfChoice q
theorem sz3_at {n0 n1 n2 i : Nat} {x : PV} (h : [PV.int (n0 : Nat), .int (n1 : Nat), .int (n2 : Nat)][i]? = some x) : i < 3 ∧ x = .int (sel n0 n1 n2 i : Nat) := by
  have hi : i < 3 := lt_of_get h
  obtain rfl | rfl | rfl : i = 0 ∨ i = 1 ∨ i = 2 := by omega
  all_goals exact ⟨by decide, (Option.some.inj h).symm⟩
theorem sel_pos {n0 n1 n2 o : Nat} (h0 : 1 ≤ n0) (h1 : 1 ≤ n1) (h2 : 1 ≤ n2) : 1 ≤ sel n0 n1 n2 o := by
  unfold sel; split <;> assumption
def sp__law_small_table (K : Kf) : PSpec := fun vs M Q _ => ∃ (a s z o : Addr) (ns : List Int) (n0 n1 n2 : Nat) (us : List Str), vs = [.ref a, .ref s, .ref z, .ref o] ∧ Env K M a s ns ∧ z ≠ s ∧ o ≠ s ∧ M z = some (.lst [.int (n0 : Nat), .int (n1 : Nat), .int (n2 : Nat)]) ∧ M o = some (.lst (us.map PV.str)) ∧
  us ≠ [] ∧ us.length ≤ 100 ∧ 1 ≤ n0 ∧ 1 ≤ n1 ∧ 1 ≤ n2 ∧ n0 ≤ 32 ∧ n1 ≤ 32 ∧ n2 ≤ 32 ∧
  ∀ (W : Nat → Int) (C : Nat → Nat → Nat → Str) M', (∀ c, c < n0 → 1 ≤ W c ∧ W c ≤ 6) → Env K M' a s ns → Keep s M M' → Q (tab n0 n1 n2 W C) M'
theorem sp__law_small_table_len {K : Kf} {vs : List PV} {M : PHp} {Q : PVK} {E : PXK} (h : sp__law_small_table K vs M Q E) : vs.length = 4 := by
  obtain ⟨_, _, _, _, _, _, _, _, _, rfl, _⟩ := h; rfl

theorem ok__law_small_table {P : Program} {w : World} {K : Kf} {mg : Str → Option Value} {base : Heap} (h0 : Here K mg "_law_small_table" s__law_small_table ["script", "source", "sizes", "outcomes"]) (T : Blt mg) (Su : Sure P base) (C__law_draw : Callee P w K mg base 34 "_law_draw" ["script", "source", "limit"] (sp__law_draw K)) (C__law_reduced : Callee P w K mg base 35 "_law_reduced" ["weights"] (sp__law_reduced K)) : Callee P w K mg base 36 "_law_small_table" ["script", "source", "sizes", "outcomes"] (sp__law_small_table K) := by
  refine ok_of h0 sc__law_small_table (fun vs M Q E h => sp__law_small_table_len h) (fun f cdv A outer s H E hr => ⟨_, (psscons (psset 4 sc__law_small_table.nd (plst panil))
      (psscons (psfor PassesOwn.never rfl (pirng1 (by rfl) T.b_range (pacons (pixK (K := K) (pv 2) pinT) panil)) (pgname (i := 5) sc__law_small_table.nd) (psscons (psset 6 sc__law_small_table.nd (plst panil))
      (psscons (psfor PassesOwn.never rfl (pirng1 (by rfl) T.b_range (pacons (pixK (K := K) (pv 2) pinT) panil)) (pgname (i := 7) sc__law_small_table.nd) (pssone (psexpr (pbmK (K := K) PySem.F.plainAttrs_list PySem.F.slot_list_append PySem.F.type_list_append mAppend (pv 6) (pacons (plc1 12 rfl sc__law_small_table.nd (pirng1 (by rfl) T.b_range (pacons (pixK (K := K) (pv 2) pinT) panil)) (blkOk_by (own := [("c", 12)]) (N := ["script", "source", "sizes", "outcomes", "cells", "i", "layer", "j", "low", "high", "weights", "layers", "c", "size", "entries"]) (sc := defScope s__law_small_table) (by decide +kernel)) (by decide) (fun _ _ _ _ _ => pg_name (i := 12) sc__law_small_table.nd rfl (Or.inl rfl)) (fun _ _ _ _ _ => ptsnil) (fun _ _ _ _ _ => (pixK (K := K) (pv 3) (pcall C__law_draw (by exact hr.mono (by first | decide | omega)) (pacons (pv 0) (pacons (pv 1) (pacons (pcallB (cLenK (K := K)) (by rfl) T.b_len (by decide +kernel) (pacons (pv 3) panil)) panil))))))) panil)))))
      (pssone (psexpr (pbmK (K := K) PySem.F.plainAttrs_list PySem.F.slot_list_append PySem.F.type_list_append mAppend (pv 4) (pacons (pv 6) panil)))))))
      (psscons (pssetlc1 8 13 rfl sc__law_small_table.nd rfl (sw_true rfl rfl rfl (by decide +kernel)) (piseqK (K := K) (pv 2)) (blkOk_by (own := [("size", 13)]) (N := ["script", "source", "sizes", "outcomes", "cells", "i", "layer", "j", "low", "high", "weights", "layers", "c", "size", "entries"]) (sc := defScope s__law_small_table) (by decide +kernel)) (by decide) (fun _ _ _ _ _ => pg_name (i := 13) sc__law_small_table.nd rfl (Or.inl rfl)) (fun _ _ _ _ _ => ptsnil) (fun _ _ _ _ _ => (pcall C__law_draw (by exact hr.mono (by first | decide | omega)) (pacons (pv 0) (pacons (pv 1) (pacons (pv 13) panil))))))
      (psscons (pssetlc1 9 13 rfl sc__law_small_table.nd rfl (sw_true rfl rfl rfl (by decide +kernel)) (piseqK (K := K) (pv 2)) (blkOk_by (own := [("size", 13)]) (N := ["script", "source", "sizes", "outcomes", "cells", "i", "layer", "j", "low", "high", "weights", "layers", "c", "size", "entries"]) (sc := defScope s__law_small_table) (by decide +kernel)) (by decide) (fun _ _ _ _ _ => pg_name (i := 13) sc__law_small_table.nd rfl (Or.inl rfl)) (fun _ _ _ _ _ => ptsnil) (fun _ _ _ _ _ => (pcall C__law_draw (by exact hr.mono (by first | decide | omega)) (pacons (pv 0) (pacons (pv 1) (pacons (pv 13) panil))))))
      (psscut (psif (ptcmp (opEqK (K := K) (by exact hr.units)) (pcall C__law_draw (by exact hr.mono (by first | decide | omega)) (pacons (pv 0) (pacons (pv 1) (pacons pinT panil)))) pinT (nomark _)) (pssone (psfor PassesOwn.never rfl (pirng1 (by rfl) T.b_range (pacons (pixK (K := K) (pv 2) pinT) panil)) (pgname (i := 5) sc__law_small_table.nd) (pssone (psfor PassesOwn.never rfl (pirng1 (by rfl) T.b_range (pacons (pixK (K := K) (pv 2) pinT) panil)) (pgname (i := 7) sc__law_small_table.nd) (pssone (psasg (pixK (K := K) (pixK (K := K) (pixK (K := K) (pv 4) (pv 5)) (pv 7)) (pixK (K := K) (pv 8) pinT)) (pgsub (pixK (K := K) (pixK (K := K) (pv 4) (pv 5)) (pv 7)) (pixK (K := K) (pv 9) pinT)))))))) pssnil)
      (psscut (psif (ptcmp (opEqK (K := K) (by exact hr.units)) (pcall C__law_draw (by exact hr.mono (by first | decide | omega)) (pacons (pv 0) (pacons (pv 1) (pacons pinT panil)))) pinT (nomark _)) (pssone (psfor PassesOwn.never rfl (pirng1 (by rfl) T.b_range (pacons (pixK (K := K) (pv 2) pinT) panil)) (pgname (i := 5) sc__law_small_table.nd) (pssone (psasg (pcallTy (cListK (K := K)) (by rfl) T.b_list (by decide +kernel) (pacons (pixK (K := K) (pixK (K := K) (pv 4) (pv 5)) (pixK (K := K) (pv 8) pinT)) panil)) (pgsub (pixK (K := K) (pv 4) (pv 5)) (pixK (K := K) (pv 9) pinT)))))) pssnil)
      (psscut (psif (ptcmp (opEqK (K := K) (by exact hr.units)) (pcall C__law_draw (by exact hr.mono (by first | decide | omega)) (pacons (pv 0) (pacons (pv 1) (pacons pinT panil)))) pinT (nomark _)) (pssone (psasg (plc1 14 rfl sc__law_small_table.nd (piseqK (K := K) (pixK (K := K) (pv 4) (pixK (K := K) (pv 8) pinT))) (blkOk_by (own := [("entries", 14)]) (N := ["script", "source", "sizes", "outcomes", "cells", "i", "layer", "j", "low", "high", "weights", "layers", "c", "size", "entries"]) (sc := defScope s__law_small_table) (by decide +kernel)) (by decide) (fun _ _ _ _ _ => pg_name (i := 14) sc__law_small_table.nd rfl (Or.inl rfl)) (fun _ _ _ _ _ => ptsnil) (fun _ _ _ _ _ => (pcallTy (cListK (K := K)) (by rfl) T.b_list (by decide +kernel) (pacons (pv 14) panil)))) (pgsub (pv 4) (pixK (K := K) (pv 9) pinT)))) pssnil)
      (psscons (psset 10 sc__law_small_table.nd (plc1 12 rfl sc__law_small_table.nd (pirng1 (by rfl) T.b_range (pacons (pixK (K := K) (pv 2) pinT) panil)) (blkOk_by (own := [("c", 12)]) (N := ["script", "source", "sizes", "outcomes", "cells", "i", "layer", "j", "low", "high", "weights", "layers", "c", "size", "entries"]) (sc := defScope s__law_small_table) (by decide +kernel)) (by decide) (fun _ _ _ _ _ => pg_name (i := 12) sc__law_small_table.nd rfl (Or.inl rfl)) (fun _ _ _ _ _ => ptsnil) (fun _ _ _ _ _ => (pop opAdd pinT (pcall C__law_draw (by exact hr.mono (by first | decide | omega)) (pacons (pv 0) (pacons (pv 1) (pacons pinT panil))))))))
      (psscut (psif (ptcmp (opEqK (K := K) (by exact hr.units)) (pcall C__law_draw (by exact hr.mono (by first | decide | omega)) (pacons (pv 0) (pacons (pv 1) (pacons pinT panil)))) pinT (nomark _)) (pssone (psset 10 sc__law_small_table.nd (plc1 12 rfl sc__law_small_table.nd (pirng1 (by rfl) T.b_range (pacons (pixK (K := K) (pv 2) pinT) panil)) (blkOk_by (own := [("c", 12)]) (N := ["script", "source", "sizes", "outcomes", "cells", "i", "layer", "j", "low", "high", "weights", "layers", "c", "size", "entries"]) (sc := defScope s__law_small_table) (by decide +kernel)) (by decide) (fun _ _ _ _ _ => pg_name (i := 12) sc__law_small_table.nd rfl (Or.inl rfl)) (fun _ _ _ _ _ => ptsnil) (fun _ _ _ _ _ => (pixK (K := K) (pv 10) pinT))))) pssnil)
      (psscut (psif (ptcmp (opEqK (K := K) (by exact hr.units)) (pcall C__law_draw (by exact hr.mono (by first | decide | omega)) (pacons (pv 0) (pacons (pv 1) (pacons pinT panil)))) pinT (nomark _)) (pssone (psset 10 sc__law_small_table.nd (pcallTy (cListK (K := K)) (by rfl) T.b_list (by decide +kernel) (pacons (pcall C__law_reduced (by exact hr.mono (by first | decide | omega)) (pacons (pv 10) panil)) panil)))) pssnil)
      (psscons (psset 11 sc__law_small_table.nd (plst panil))
      (psscons (psfor PassesOwn.never rfl (piseqK (K := K) (pv 4)) (pgname (i := 6) sc__law_small_table.nd) (pssone (psexpr (pbmK (K := K) PySem.F.plainAttrs_list PySem.F.slot_list_append PySem.F.type_list_append mAppend (pv 11) (pacons (pcallTy (cTupleK (K := K)) (by rfl) T.b_tuple (by decide +kernel) (pacons (plcP  rfl sc__law_small_table.nd (piseqK (K := K) (pv 6)) (blkOk_by (own := [("entries", 14)]) (N := ["script", "source", "sizes", "outcomes", "cells", "i", "layer", "j", "low", "high", "weights", "layers", "c", "size", "entries"]) (sc := defScope s__law_small_table) (by decide +kernel)) (tgName (by decide)) (fun _ _ _ _ _ => (pg_name (i := 14) sc__law_small_table.nd rfl (by first | exact Or.inl rfl | exact Or.inr rfl))) (fun _ _ _ _ _ => (pcallTy (cTupleK (K := K)) (by rfl) T.b_tuple (by decide +kernel) (pacons (pv 14) panil)))) panil)) panil)))))
      (pssone (psret (ptup (pacons (pcallTy (cTupleK (K := K)) (by rfl) T.b_tuple (by decide +kernel) (pacons (pv 10) panil)) (pacons (pcallTy (cTupleK (K := K)) (by rfl) T.b_tuple (by decide +kernel) (pacons (pv 11) panil)) panil))))))))))))))))), fun vs M Q Ep h => ?_⟩)
  obtain ⟨a, s, z, o, ns, n0, n1, n2, us, rfl, e, zs, os, hz, ho, une, ul, g0, g1, g2, b0, b1, b2, k⟩ := h
  have he := He.start e
  have sz := sizeLine_eq
  have ul2 : (us.map PV.str).length = us.length := List.length_map _
  have up := List.length_pos_iff.mpr une
  walk_at "go"
  refine al he fun c hc he => ?_
  replace he := he (.lst [])
  have hz1 := he.old (by simpa using zs) hz
  have ho1 := he.old (by simpa using os) ho
  walk_at "on"
  refine ⟨by omega, ?_⟩
  refine ⟨fun i σ M' => ∃ (L : List (Addr × MO)) (Ls : List Addr) (w5 w6 w7 : Option PV), σ = [some (.ref a), some (.ref s), some (.ref z), some (.ref o), some (.ref c), w5, w6, w7, none, none, none, none, none, none, none] ∧ Ls.length = i ∧ (∀ l ∈ Ls, Ly n0 n2 L l) ∧ He K [] a s ns M M' ((c, .lst (Ls.map PV.ref)) :: L), ⟨_, _, by walk_at "subs", .refl _, [], [], _, _, _, rfl, rfl, by simp, he⟩, fun _ _ _ _ => trivial, ?_, ?_⟩
  · clear he hz1 ho1
    rintro i x σ M1 hx ⟨L, Ls, w5, w6, w7, rfl, li, ly, he⟩
    obtain ⟨hi, rfl⟩ := rng_get hx
    have hz1 := he.old (by simpa using zs) hz
    walk_at "on"
    refine al he fun y hy he => ?_
    replace he := he (.lst [])
    have hz1 := he.old (by simpa using zs) hz
    walk_at "on"
    refine ⟨by omega, ?_⟩
    refine ⟨fun j σ M' => ∃ (L : List (Addr × MO)) (Es : List Addr) (w7 : Option PV), σ = [some (.ref a), some (.ref s), some (.ref z), some (.ref o), some (.ref c), some (.int (0 + (i : Int))), some (.ref y), w7, none, none, none, none, none, none, none] ∧ Es.length = j ∧ (∀ e ∈ Es, En n0 L e) ∧ (∀ l ∈ Ls, Ly n0 n2 L l) ∧ He K [] a s ns M M' ((y, .lst (Es.map PV.ref)) :: (c, .lst (Ls.map PV.ref)) :: L), ⟨_, _, by walk_at "subs", .refl _, L, [], _, rfl, rfl, by simp, ly, he⟩, fun _ _ _ _ => trivial, ?_, ?_⟩
    · clear he hz1 ly
      rintro j x σ M2 hx ⟨L, Es, w7, rfl, lj, en, ly, he⟩
      obtain ⟨hj, rfl⟩ := rng_get hx
      have hz1 := he.old (by simpa using zs) hz
      walk_at "on"
      refine ⟨by omega, ?_⟩
      refine al he fun D hD he => ?_
      replace he := he (.lst [])
      refine ⟨fun l acc M' => ∃ ys : List Str, acc = ys.map PV.str ∧ ys.length = l ∧ He K [] a s ns M M' ((D, .lst acc) :: (y, .lst (Es.map PV.ref)) :: (c, .lst (Ls.map PV.ref)) :: L), ⟨_, .refl _, [], rfl, rfl, he⟩, fun _ _ _ _ => trivial, ?_, ?_⟩
      · clear he hz1
        rintro l x acc M3 hx ⟨ys, rfl, yl, he⟩
        obtain ⟨hl, rfl⟩ := rng_get hx
        have ho1 := he.old (by simpa using os) ho
        walk_at "on"
        refine dr he (by omega) (bits64 (by omega)) fun r M4 r0 r1 he => ?_
        have ho1 := he.old (by simpa using os) ho
        rw [ul2] at r1
        obtain ⟨u, _, hu, _⟩ := at_mem r0 r1
        have hu2 : atI (us.map PV.str) r = some (.str u) := by
          obtain ⟨m, rfl⟩ : ∃ m : Nat, r = (m : Int) := ⟨r.toNat, by omega⟩
          rw [Int.toNat_natCast] at hu
          exact atI_nat (by rw [List.getElem?_map, hu]; rfl)
        walk_at "on"
        refine ⟨he.get 0 rfl, by rw [List.length_map]; omega, _, .refl _, ys ++ [u], by rw [List.map_append]; rfl, by rw [List.length_append, yl]; rfl, ?_⟩
        exact he.up0
      · clear he hz1
        rintro acc M3 ⟨ys, rfl, yl, he⟩
        rw [rng_len] at yl
        walk_at "on"
        refine ⟨_, he.get 1 rfl, by rw [List.length_map]; omega, ?_⟩
        replace he := (he.up1 (o' := .lst (Es.map PV.ref ++ [.ref D])))
        refine ⟨_, _, by walk_at "subs", .refl _, (D, .lst (ys.map PV.str)) :: L, Es ++ [D], _, rfl, by rw [List.length_append, lj]; rfl, fun e h => ?_, fun l hl => (ly l hl).mono fun x hx => List.mem_cons_of_mem _ hx, ?_⟩
        · rcases List.mem_append.mp h with h | h
          · exact (en e h).mono fun x hx => List.mem_cons_of_mem _ hx
          · rw [List.mem_singleton.mp h]
            exact ⟨ys, by omega, List.mem_cons_self⟩
        · rw [List.map_append]
          exact He.mv (A := [_, _]) he
    · clear he hz1 ly
      rintro σ M2 ⟨L, Es, w7, rfl, lj, en, ly, he⟩
      rw [rng_len] at lj
      walk_at "on"
      refine ⟨_, he.get 1 rfl, by rw [List.length_map]; omega, ?_⟩
      replace he := (he.up1 (o' := .lst (Ls.map PV.ref ++ [.ref y])))
      refine ⟨_, _, by walk_at "subs", .refl _, (y, .lst (Es.map PV.ref)) :: L, Ls ++ [y], _, _, _, rfl, by rw [List.length_append, li]; rfl, fun l hl => ?_, ?_⟩
      · rcases List.mem_append.mp hl with h | h
        · exact (ly l h).mono fun x hx => List.mem_cons_of_mem _ hx
        · rw [List.mem_singleton.mp h]
          exact ⟨Es, by omega, List.mem_cons_self, fun e he => (en e he).mono fun x hx => List.mem_cons_of_mem _ hx⟩
      · rw [List.map_append]
        exact He.mv (A := [_]) he
  clear he hz1 ho1
  rintro σ M1 ⟨L, Ls, w5, w6, w7, rfl, li, ly, he⟩
  rw [rng_len] at li
  have li : Ls.length = n1 := by omega
  have hz1 := he.old (by simpa using zs) hz
  walk_at "on"
  refine al he fun lo hlo he => ?_
  replace he := he (.lst [])
  refine ⟨fun i acc M' => ∃ d : Nat → Nat, (∀ k, k < i → d k < sel n0 n1 n2 k) ∧ acc = mk i (fun k => .int (d k : Nat)) ∧ He K [] a s ns M M' ((lo, .lst acc) :: (c, .lst (Ls.map PV.ref)) :: L), ⟨_, .refl _, fun _ => 0, by simp, rfl, he⟩, fun i acc M' ⟨_, _, _, h⟩ => .inl (h.old (by simpa using zs) hz), ?_, ?_⟩
  · clear he hz1
    rintro i x acc M2 hx ⟨d, hd, rfl, he⟩
    obtain ⟨i3, rfl⟩ := sz3_at hx
    have sb := sel_le (o := i) b0 b1 b2
    have sp := sel_pos (o := i) g0 g1 g2
    walk_at "on"
    refine dr he (by omega) (bits64 (by omega)) fun r M3 r0 r1 he => ?_
    refine ⟨he.get 0 rfl, by rw [mk_len]; omega, _, .refl _, fun k => if k = i then r.toNat else d k, fun k hk => ?_, ?_, he.up0⟩
    · dsimp only
      by_cases q : k = i
      · subst q; rw [if_pos rfl]; omega
      · rw [if_neg q]; exact hd k (by omega)
    · rw [mk_succ]
      dsimp only
      rw [if_pos rfl, Int.toNat_of_nonneg r0]
      exact congrArg (· ++ [PV.int r]) (mk_congr fun k hk => by rw [if_neg (by omega)])
  clear he hz1
  rintro acc M2 ⟨dl, hdl, rfl, he⟩
  rw [show ([PV.int (n0 : Nat), .int (n1 : Nat), .int (n2 : Nat)] : List PV).length = 3 from rfl] at hdl he
  have hz1 := he.old (by simpa using zs) hz
  walk_at "on"
  refine al he fun hw hhw he => ?_
  replace he := he (.lst [])
  refine ⟨fun i acc M' => ∃ d : Nat → Nat, (∀ k, k < i → d k < sel n0 n1 n2 k) ∧ acc = mk i (fun k => .int (d k : Nat)) ∧ He K [] a s ns M M' ((hw, .lst acc) :: (lo, .lst (mk 3 fun k => .int (dl k : Nat))) :: (c, .lst (Ls.map PV.ref)) :: L), ⟨_, .refl _, fun _ => 0, by simp, rfl, he⟩, fun i acc M' ⟨_, _, _, h⟩ => .inl (h.old (by simpa using zs) hz), ?_, ?_⟩
  · clear he hz1
    rintro i x acc M2 hx ⟨d, hd, rfl, he⟩
    obtain ⟨i3, rfl⟩ := sz3_at hx
    have sb := sel_le (o := i) b0 b1 b2
    have sp := sel_pos (o := i) g0 g1 g2
    walk_at "on"
    refine dr he (by omega) (bits64 (by omega)) fun r M3 r0 r1 he => ?_
    refine ⟨he.get 0 rfl, by rw [mk_len]; omega, _, .refl _, fun k => if k = i then r.toNat else d k, fun k hk => ?_, ?_, he.up0⟩
    · dsimp only
      by_cases q : k = i
      · subst q; rw [if_pos rfl]; omega
      · rw [if_neg q]; exact hd k (by omega)
    · rw [mk_succ]
      dsimp only
      rw [if_pos rfl, Int.toNat_of_nonneg r0]
      exact congrArg (· ++ [PV.int r]) (mk_congr fun k hk => by rw [if_neg (by omega)])
  clear he hz1
  rintro acc M2 ⟨dh, hdh, rfl, he⟩
  rw [show ([PV.int (n0 : Nat), .int (n1 : Nat), .int (n2 : Nat)] : List PV).length = 3 from rfl] at hdh he
  have hz1 := he.old (by simpa using zs) hz
  walk_at "on"
  have al0 : atI (mk 3 fun k => PV.int (dl k : Nat)) 0 = some (.int (dl 0 : Nat)) := at_mk (i := 0) (by decide)
  have al1 : atI (mk 3 fun k => PV.int (dl k : Nat)) 1 = some (.int (dl 1 : Nat)) := at_mk (i := 1) (by decide)
  have al2 : atI (mk 3 fun k => PV.int (dl k : Nat)) 2 = some (.int (dl 2 : Nat)) := at_mk (i := 2) (by decide)
  have ah0 : atI (mk 3 fun k => PV.int (dh k : Nat)) 0 = some (.int (dh 0 : Nat)) := at_mk (i := 0) (by decide)
  have ah1 : atI (mk 3 fun k => PV.int (dh k : Nat)) 1 = some (.int (dh 1 : Nat)) := at_mk (i := 1) (by decide)
  have ah2 : atI (mk 3 fun k => PV.int (dh k : Nat)) 2 = some (.int (dh 2 : Nat)) := at_mk (i := 2) (by decide)
  have dl0 : dl 0 < n0 := hdl 0 (by decide)
  have dl1 : dl 1 < n1 := hdl 1 (by decide)
  have dl2 : dl 2 < n2 := hdl 2 (by decide)
  have dh0 : dh 0 < n0 := hdh 0 (by decide)
  have dh1 : dh 1 < n1 := hdh 1 (by decide)
  have dh2 : dh 2 < n2 := hdh 2 (by decide)
  refine ⟨fun σ M' => ∃ (L : List (Addr × MO)) (Ls : List Addr) (w5 w6 w7 : Option PV), σ = [some (.ref a), some (.ref s), some (.ref z), some (.ref o), some (.ref c), w5, w6, w7, some (.ref lo), some (.ref hw), none, none, none, none, none] ∧ Ls.length = n1 ∧ (∀ l ∈ Ls, Ly n0 n2 L l) ∧ He K [] a s ns M M' ((hw, .lst (mk 3 fun k => .int (dh k : Nat))) :: (lo, .lst (mk 3 fun k => .int (dl k : Nat))) :: (c, .lst (Ls.map PV.ref)) :: L), ?_, ?_⟩
  · walk_at "on"
    refine dr he (by decide) (by decide) fun r M5 r0 r1 he => ?_
    have hz1 := he.old (by simpa using zs) hz
    walk_at "on"
    refine br_dec (fun h => ?_) (fun h => ?_)
    · walk_at "on"
      refine ⟨by omega, ?_⟩
      refine ⟨fun i => fun σ M' => ∃ (L : List (Addr × MO)) (Ls : List Addr) (w5 w6 w7 : Option PV), σ = [some (.ref a), some (.ref s), some (.ref z), some (.ref o), some (.ref c), w5, w6, w7, some (.ref lo), some (.ref hw), none, none, none, none, none] ∧ Ls.length = n1 ∧ (∀ l ∈ Ls, Ly n0 n2 L l) ∧ He K [] a s ns M M' ((hw, .lst (mk 3 fun k => .int (dh k : Nat))) :: (lo, .lst (mk 3 fun k => .int (dl k : Nat))) :: (c, .lst (Ls.map PV.ref)) :: L), ⟨_, _, by walk_at "subs", .refl _, L, Ls, _, _, _, rfl, li, ly, he⟩, fun _ _ _ _ => trivial, ?_, ?_⟩
      · clear he hz1 ly li
        rintro i x σ M6 hx ⟨L, Ls, w5, w6, w7, rfl, li, ly, he⟩
        obtain ⟨hi, rfl⟩ := rng_get hx
        have hi : i < n1 := by omega
        rw [show (0 : Int) + (i : Int) = (i : Int) by omega]
        have hz1 := he.old (by simpa using zs) hz
        walk_at "on"
        refine ⟨by omega, ?_⟩
        refine ⟨fun j σ M' => ∃ (L : List (Addr × MO)) (Ls : List Addr) (w6 w7 : Option PV), σ = [some (.ref a), some (.ref s), some (.ref z), some (.ref o), some (.ref c), some (.int (i : Int)), w6, w7, some (.ref lo), some (.ref hw), none, none, none, none, none] ∧ Ls.length = n1 ∧ (∀ l ∈ Ls, Ly n0 n2 L l) ∧ He K [] a s ns M M' ((hw, .lst (mk 3 fun k => .int (dh k : Nat))) :: (lo, .lst (mk 3 fun k => .int (dl k : Nat))) :: (c, .lst (Ls.map PV.ref)) :: L), ⟨_, _, by walk_at "subs", .refl _, L, Ls, _, _, rfl, li, ly, he⟩, fun _ _ _ _ => trivial, ?_, ?_⟩
        · clear he hz1 ly li
          rintro j x σ M7 hx ⟨L, Ls, w6, w7, rfl, li, ly, he⟩
          obtain ⟨hj, rfl⟩ := rng_get hx
          have hj : j < n2 := by omega
          rw [show (0 : Int) + (j : Int) = (j : Int) by omega]
          obtain ⟨l, hl, _, cl⟩ := ref_at (Ls := Ls) (i := i) (by omega)
          obtain ⟨Es, el, lL, en⟩ := ly l hl
          obtain ⟨e2, he2, _, ce⟩ := ref_at (Ls := Es) (i := j) (by omega)
          obtain ⟨xs, xl, eL⟩ := en e2 he2
          have m0 := he.get 0 rfl
          have m1 := he.get 1 rfl
          have m2 := he.get 2 rfl
          have m3 := he.hd.ats _ (List.mem_append_right [_, _, _] lL)
          have m4 := he.hd.ats _ (List.mem_append_right [_, _, _] eL)
          dsimp only at m3 m4
          obtain ⟨u, hu⟩ : ∃ u, xs[dl 0]? = some u := ⟨_, List.getElem?_eq_getElem (by omega)⟩
          have cu : atI (xs.map PV.str) (dl 0 : Nat) = some (.str u) := atI_nat (by rw [List.getElem?_map, hu]; rfl)
          walk_at "on"
          refine ⟨_, dh 0, m4, by rw [List.length_map, xl]; exact ixN_nat (by omega), ?_⟩
          rw [show (xs.map PV.str).set (dh 0) (.str u) = (xs.set (dh 0) u).map PV.str by rw [List.map_set]]
          obtain ⟨L', he, tr⟩ := He.wrE (A := [_, _, _]) g0 he (en e2 he2) (ys := xs.set (dh 0) u) (by rw [List.length_set]; exact xl)
          exact ⟨_, _, by walk_at "subs", .refl _, L', Ls, _, _, rfl, li, fun l hl => tr l (ly l hl), he⟩
        · clear he hz1 ly li
          rintro σ M7 ⟨L, Ls, w6, w7, rfl, li, ly, he⟩
          exact ⟨_, _, by walk_at "subs", .refl _, L, Ls, _, _, _, rfl, li, ly, he⟩
      · clear he hz1 ly li
        rintro σ M6 ⟨L, Ls, w5, w6, w7, rfl, li, ly, he⟩
        exact ⟨_, _, by walk_at "subs", .refl _, L, Ls, _, _, _, rfl, li, ly, he⟩
    · walk_at "on"
      exact ⟨_, _, by walk_at "subs", .refl _, L, Ls, _, _, _, rfl, li, ly, he⟩
  clear he hz1 ly li
  rintro σ M3 ⟨L, Ls, w5, w6, w7, rfl, li, ly, he⟩
  have hz1 := he.old (by simpa using zs) hz
  walk_at "on"
  refine ⟨fun σ M' => ∃ (L : List (Addr × MO)) (Ls : List Addr) (w5 w6 w7 : Option PV), σ = [some (.ref a), some (.ref s), some (.ref z), some (.ref o), some (.ref c), w5, w6, w7, some (.ref lo), some (.ref hw), none, none, none, none, none] ∧ Ls.length = n1 ∧ (∀ l ∈ Ls, Ly n0 n2 L l) ∧ He K [] a s ns M M' ((hw, .lst (mk 3 fun k => .int (dh k : Nat))) :: (lo, .lst (mk 3 fun k => .int (dl k : Nat))) :: (c, .lst (Ls.map PV.ref)) :: L), ?_, ?_⟩
  · walk_at "on"
    refine dr he (by decide) (by decide) fun r M5 r0 r1 he => ?_
    have hz1 := he.old (by simpa using zs) hz
    walk_at "on"
    refine br_dec (fun h => ?_) (fun h => ?_)
    · walk_at "on"
      refine ⟨by omega, ?_⟩
      refine ⟨fun i => fun σ M' => ∃ (L : List (Addr × MO)) (Ls : List Addr) (w5 w6 w7 : Option PV), σ = [some (.ref a), some (.ref s), some (.ref z), some (.ref o), some (.ref c), w5, w6, w7, some (.ref lo), some (.ref hw), none, none, none, none, none] ∧ Ls.length = n1 ∧ (∀ l ∈ Ls, Ly n0 n2 L l) ∧ He K [] a s ns M M' ((hw, .lst (mk 3 fun k => .int (dh k : Nat))) :: (lo, .lst (mk 3 fun k => .int (dl k : Nat))) :: (c, .lst (Ls.map PV.ref)) :: L), ⟨_, _, by walk_at "subs", .refl _, L, Ls, _, _, _, rfl, li, ly, he⟩, fun _ _ _ _ => trivial, ?_, ?_⟩
      · clear he hz1 ly li
        rintro i x σ M6 hx ⟨L, Ls, w5, w6, w7, rfl, li, ly, he⟩
        obtain ⟨hi, rfl⟩ := rng_get hx
        have hi : i < n1 := by omega
        rw [show (0 : Int) + (i : Int) = (i : Int) by omega]
        have hz1 := he.old (by simpa using zs) hz
        obtain ⟨l, hl, _, cl⟩ := ref_at (Ls := Ls) (i := i) (by omega)
        obtain ⟨Es, el, lL, en⟩ := ly l hl
        obtain ⟨e2, he2, _, ce⟩ := ref_at (Ls := Es) (i := dl 2) (by omega)
        obtain ⟨xs, xl, eL⟩ := en e2 he2
        have m0 := he.get 0 rfl
        have m1 := he.get 1 rfl
        have m2 := he.get 2 rfl
        have m3 := he.hd.ats _ (List.mem_append_right [_, _, _] lL)
        have m4 := he.hd.ats _ (List.mem_append_right [_, _, _] eL)
        dsimp only at m3 m4
        walk_at "on"
        refine al he fun p hp he => ?_
        replace he := He.mv (A := [_, _, _]) (he (.lst (xs.map PV.str)))
        have m0 := he.get 0 rfl
        have m1 := he.get 1 rfl
        have m2 := he.get 2 rfl
        have m3 := he.hd.ats _ (List.mem_append_right [_, _, _] (List.mem_cons_of_mem _ lL))
        dsimp only at m3
        walk_at "on"
        refine ⟨_, dh 2, m3, by rw [List.length_map, el]; exact ixN_nat (by omega), ?_⟩
        rw [show (Es.map PV.ref).set (dh 2) (.ref p) = (Es.set (dh 2) p).map PV.ref by rw [List.map_set]]
        have mo : ∀ x ∈ L, x ∈ (p, MO.lst (xs.map PV.str)) :: L := fun x hx => List.mem_cons_of_mem _ hx
        obtain ⟨L', he, tr⟩ := He.wrL (A := [_, _, _]) g0 he ((ly l hl).mono mo) (Fs := Es.set (dh 2) p) (by rw [List.length_set]; exact el) (fun e he => by
          rcases List.mem_or_eq_of_mem_set he with h | h
          · exact (en e h).mono mo
          · exact h ▸ ⟨xs, xl, List.mem_cons_self⟩)
        exact ⟨_, _, by walk_at "subs", .refl _, L', Ls, _, _, _, rfl, li, fun l hl => tr l ((ly l hl).mono mo), he⟩
      · clear he hz1 ly li
        rintro σ M6 ⟨L, Ls, w5, w6, w7, rfl, li, ly, he⟩
        exact ⟨_, _, by walk_at "subs", .refl _, L, Ls, _, _, _, rfl, li, ly, he⟩
    · walk_at "on"
      exact ⟨_, _, by walk_at "subs", .refl _, L, Ls, _, _, _, rfl, li, ly, he⟩
  clear he hz1 ly li
  rintro σ M4 ⟨L, Ls, w5, w6, w7, rfl, li, ly, he⟩
  have hz1 := he.old (by simpa using zs) hz
  walk_at "on"
  refine ⟨fun σ M' => ∃ (L : List (Addr × MO)) (Ls : List Addr) (w5 w6 w7 : Option PV), σ = [some (.ref a), some (.ref s), some (.ref z), some (.ref o), some (.ref c), w5, w6, w7, some (.ref lo), some (.ref hw), none, none, none, none, none] ∧ Ls.length = n1 ∧ (∀ l ∈ Ls, Ly n0 n2 L l) ∧ He K [] a s ns M M' ((hw, .lst (mk 3 fun k => .int (dh k : Nat))) :: (lo, .lst (mk 3 fun k => .int (dl k : Nat))) :: (c, .lst (Ls.map PV.ref)) :: L), ?_, ?_⟩
  · walk_at "on"
    refine dr he (by decide) (by decide) fun r M5 r0 r1 he => ?_
    have hz1 := he.old (by simpa using zs) hz
    walk_at "on"
    refine br_dec (fun h => ?_) (fun h => ?_)
    · obtain ⟨l, hl, _, cl⟩ := ref_at (Ls := Ls) (i := dl 1) (by omega)
      obtain ⟨Es, el, lL, en⟩ := ly l hl
      have m0 := he.get 0 rfl
      have m1 := he.get 1 rfl
      have m2 := he.get 2 rfl
      have m3 := he.hd.ats _ (List.mem_append_right [_, _, _] lL)
      dsimp only at m3
      walk_at "on"
      refine al he fun D hD he => ?_
      replace he := he (.lst [])
      refine ⟨fun i acc M' => ∃ (L' : List (Addr × MO)) (Fs : List Addr), acc = Fs.map PV.ref ∧ Fs.length = i ∧ (∀ e ∈ Fs, En n0 L' e) ∧ (∀ x ∈ L, x ∈ L') ∧ He K [] a s ns M M' ((D, .lst acc) :: (hw, .lst (mk 3 fun k => .int (dh k : Nat))) :: (lo, .lst (mk 3 fun k => .int (dl k : Nat))) :: (c, .lst (Ls.map PV.ref)) :: L'), ⟨_, .refl _, L, [], rfl, rfl, by simp, fun _ h => h, he⟩, fun i acc M' ⟨_, _, _, _, _, h1, h2⟩ => .inl (h2.hd.ats _ (List.mem_append_right [_, _, _, _] (h1 _ lL))), ?_, ?_⟩
      · clear he hz1 m0 m1 m2 m3
        rintro i x acc M6 hx ⟨L', Fs, rfl, fl, fn, mo, he⟩
        rw [List.getElem?_map] at hx
        cases hE : Es[i]? with
        | none => rw [hE] at hx; cases hx
        | some e2 =>
          rw [hE] at hx; cases hx
          have hi := lt_of_get hE
          obtain ⟨xs, xl, eL⟩ := en e2 (List.mem_of_getElem? hE)
          have m4 := he.hd.ats _ (List.mem_append_right [_, _, _, _] (mo _ eL))
          dsimp only at m4
          walk_at "on"
          refine al he fun p hp he => ?_
          replace he := He.mv (A := [_, _, _, _]) (he (.lst (xs.map PV.str)))
          refine ⟨he.get 0 rfl, by rw [List.length_map]; omega, _, .refl _, (p, .lst (xs.map PV.str)) :: L', Fs ++ [p], by rw [List.map_append]; rfl, by rw [List.length_append, fl]; rfl, fun e h => ?_, fun x hx => List.mem_cons_of_mem _ (mo x hx), he.up0⟩
          rcases List.mem_append.mp h with h | h
          · exact (fn e h).mono fun x hx => List.mem_cons_of_mem _ hx
          · rw [List.mem_singleton.mp h]
            exact ⟨xs, xl, List.mem_cons_self⟩
      · clear he hz1 m0 m1 m2 m3
        rintro acc M6 ⟨L', Fs, rfl, fl, fn, mo, he⟩
        rw [List.length_map] at fl
        replace he := He.mv (A := [_, _, _]) he
        have m0 := he.get 0 rfl
        have m1 := he.get 1 rfl
        have m2 := he.get 2 rfl
        walk_at "on"
        refine ⟨_, dh 1, m2, by rw [List.length_map, li]; exact ixN_nat (by omega), ?_⟩
        rw [show (Ls.map PV.ref).set (dh 1) (.ref D) = (Ls.set (dh 1) D).map PV.ref by rw [List.map_set]]
        refine ⟨_, _, by walk_at "subs", .refl _, (D, .lst (Fs.map PV.ref)) :: L', Ls.set (dh 1) D, _, _, _, rfl, by rw [List.length_set]; exact li, fun l hl => ?_, he.up2⟩
        rcases List.mem_or_eq_of_mem_set hl with h | h
        · exact (ly l h).mono fun x hx => List.mem_cons_of_mem _ (mo x hx)
        · exact h ▸ ⟨Fs, by omega, List.mem_cons_self, fun e he => (fn e he).mono fun x hx => List.mem_cons_of_mem _ hx⟩
    · walk_at "on"
      exact ⟨_, _, by walk_at "subs", .refl _, L, Ls, _, _, _, rfl, li, ly, he⟩
  clear he hz1 ly li
  rintro σ M5 ⟨L, Ls, w5, w6, w7, rfl, li, ly, he⟩
  have hz1 := he.old (by simpa using zs) hz
  walk_at "on"
  refine ⟨by omega, ?_⟩
  refine al he fun wt hwt he => ?_
  replace he := he (.lst [])
  refine ⟨fun i acc M' => ∃ W : Nat → Int, (∀ k, k < i → 1 ≤ W k ∧ W k ≤ 6) ∧ acc = mk i (fun k => .int (W k)) ∧ He K [] a s ns M M' ((wt, .lst acc) :: (hw, .lst (mk 3 fun k => .int (dh k : Nat))) :: (lo, .lst (mk 3 fun k => .int (dl k : Nat))) :: (c, .lst (Ls.map PV.ref)) :: L), ⟨_, .refl _, fun _ => 1, by simp, rfl, he⟩, fun _ _ _ _ => trivial, ?_, ?_⟩
  · clear he hz1
    rintro i x acc M6 hx ⟨W, hW, rfl, he⟩
    obtain ⟨hi, rfl⟩ := rng_get hx
    have hi : i < n0 := by omega
    walk_at "on"
    refine dr he (by decide) (by decide) fun r M7 r0 r1 he => ?_
    walk_at "on"
    refine ⟨he.get 0 rfl, by rw [mk_len]; omega, _, .refl _, fun k => if k = i then 1 + r else W k, fun k hk => ?_, ?_, he.up0⟩
    · dsimp only
      by_cases q : k = i
      · subst q; rw [if_pos rfl]; omega
      · rw [if_neg q]; exact hW k (by omega)
    · rw [mk_succ]
      dsimp only
      rw [if_pos rfl]
      exact congrArg (· ++ [PV.int (1 + r)]) (mk_congr fun k hk => by rw [if_neg (by omega)])
  clear he hz1
  rintro acc M6 ⟨W, hW, rfl, he⟩
  rw [rng_len, Int.toNat_natCast] at hW he
  replace he := he.less (L' := (wt, .lst (mk n0 fun k => .int (W k))) :: (c, .lst (Ls.map PV.ref)) :: L) (by simp)
  have hz1 := he.old (by simpa using zs) hz
  walk_at "on"
  refine ⟨fun σ M' => ∃ (L : List (Addr × MO)) (Ls : List Addr) (w5 w6 w7 : Option PV) (wt : Addr) (W : Nat → Int), σ = [some (.ref a), some (.ref s), some (.ref z), some (.ref o), some (.ref c), w5, w6, w7, some (.ref lo), some (.ref hw), some (.ref wt), none, none, none, none] ∧ Ls.length = n1 ∧ (∀ l ∈ Ls, Ly n0 n2 L l) ∧ (∀ k, k < n0 → 1 ≤ W k ∧ W k ≤ 6) ∧ He K [] a s ns M M' ((wt, .lst (mk n0 fun k => .int (W k))) :: (c, .lst (Ls.map PV.ref)) :: L), ?_, ?_⟩
  · walk_at "on"
    refine dr he (by decide) (by decide) fun r M5 r0 r1 he => ?_
    have hz1 := he.old (by simpa using zs) hz
    walk_at "on"
    refine br_dec (fun h => ?_) (fun h => ?_)
    · walk_at "on"
      refine ⟨by omega, ?_⟩
      refine al he fun D hD he => ?_
      replace he := he (.lst [])
      have a0 : atI (mk n0 fun k => PV.int (W k)) 0 = some (.int (W 0)) := at_mk (i := 0) g0
      refine ⟨fun i acc M' => acc = mk i (fun _ => .int (W 0)) ∧ He K [] a s ns M M' ((D, .lst acc) :: (wt, .lst (mk n0 fun k => .int (W k))) :: (c, .lst (Ls.map PV.ref)) :: L), ⟨_, .refl _, rfl, he⟩, fun _ _ _ _ => trivial, ?_, ?_⟩
      · clear he hz1
        rintro i x acc M7 hx ⟨rfl, he⟩
        obtain ⟨hi, rfl⟩ := rng_get hx
        have m1 := he.get 1 rfl
        walk_at "on"
        refine ⟨he.get 0 rfl, by rw [mk_len]; omega, _, .refl _, ?_, he.up0⟩
        rw [mk_succ]
      · clear he hz1
        rintro acc M7 ⟨rfl, he⟩
        rw [rng_len, Int.toNat_natCast] at he
        refine ⟨_, _, by walk_at "subs", .refl _, L, Ls, _, _, _, D, fun _ => W 0, rfl, li, ly, fun k hk => hW 0 g0, he.d1⟩
    · walk_at "on"
      exact ⟨_, _, by walk_at "subs", .refl _, L, Ls, _, _, _, wt, W, rfl, li, ly, hW, he⟩
  clear he hz1 ly li hW
  rintro σ M7 ⟨L, Ls, w5, w6, w7, wt, W, rfl, li, ly, hW, he⟩
  have hz1 := he.old (by simpa using zs) hz
  walk_at "on"
  refine ⟨fun σ M' => ∃ (L : List (Addr × MO)) (Ls : List Addr) (w5 w6 w7 : Option PV) (wt : Addr) (W : Nat → Int), σ = [some (.ref a), some (.ref s), some (.ref z), some (.ref o), some (.ref c), w5, w6, w7, some (.ref lo), some (.ref hw), some (.ref wt), none, none, none, none] ∧ Ls.length = n1 ∧ (∀ l ∈ Ls, Ly n0 n2 L l) ∧ (∀ k, k < n0 → 1 ≤ W k ∧ W k ≤ 6) ∧ He K [] a s ns M M' ((wt, .lst (mk n0 fun k => .int (W k))) :: (c, .lst (Ls.map PV.ref)) :: L), ?_, ?_⟩
  · walk_at "on"
    refine dr he (by decide) (by decide) fun r M5 r0 r1 he => ?_
    have hz1 := he.old (by simpa using zs) hz
    walk_at "on"
    refine br_dec (fun h => ?_) (fun h => ?_)
    · have m0 := he.get 0 rfl
      walk_at "on"
      refine ⟨_, mk n0 W, rfl, .inr ⟨wt, rfl, .inl (by rw [mk_map]; exact m0)⟩, ⟨by rw [mk_len]; omega, fun w hw => ?_⟩, fun rs hrs => ?_⟩
      · obtain ⟨c, hc, rfl⟩ := mk_mem.mp hw
        have := hW c hc
        have p : (6 : Nat) < 2 ^ 200 := by decide
        exact ⟨by omega, by omega⟩
      have rl := hrs.len
      rw [mk_len] at rl
      have rr := hrs.range fun w hw => by
        obtain ⟨c, hc, rfl⟩ := mk_mem.mp hw
        exact hW c hc
      walk_at "on"
      refine al he fun D hD he => ?_
      replace he := he (.lst (rs.map PV.int))
      have er : rs.map PV.int = mk n0 fun k => PV.int (rs.getD k 0) := by
        conv => lhs; rw [mk_of rs 0, mk_map, rl]
      rw [er] at he ⊢
      refine ⟨_, _, by walk_at "subs", .refl _, L, Ls, _, _, _, D, fun k => rs.getD k 0, rfl, li, ly, fun k hk => ?_, he.d1⟩
      have h := List.getElem?_eq_getElem (l := rs) (show k < rs.length by omega)
      dsimp only
      rw [getD_get h]
      exact rr _ (List.getElem_mem _)
    · walk_at "on"
      exact ⟨_, _, by walk_at "subs", .refl _, L, Ls, _, _, _, wt, W, rfl, li, ly, hW, he⟩
  clear he hz1 ly li hW
  rintro σ M8 ⟨L, Ls, w5, w6, w7, wt, W, rfl, li, ly, hW, he⟩
  walk_at "on"
  refine al he fun p hp he => ?_
  replace he := he (.lst [])
  have m2 := he.get 2 rfl
  walk_at "on"
  refine ⟨fun i σ M' => ∃ (rows : List PV) (w5 w6 w7 : Option PV), σ = [some (.ref a), some (.ref s), some (.ref z), some (.ref o), some (.ref c), w5, w6, w7, some (.ref lo), some (.ref hw), some (.ref wt), some (.ref p), none, none, none] ∧ rows.length = i ∧ (∀ x ∈ rows, ∃ f, x = rowV n0 n2 f) ∧ He K [] a s ns M M' ((p, .lst rows) :: (wt, .lst (mk n0 fun k => .int (W k))) :: (c, .lst (Ls.map PV.ref)) :: L), ⟨_, _, by walk_at "subs", .refl _, [], _, _, _, rfl, rfl, by simp, he⟩, fun i σ M' ⟨_, _, _, _, _, _, _, h⟩ => .inl (h.get 2 rfl), ?_, ?_⟩
  · clear he m2
    rintro i x σ M9 hx ⟨rows, w5, w6, w7, rfl, rl, hrw, he⟩
    rw [List.getElem?_map] at hx
    cases hE : Ls[i]? with
    | none => rw [hE] at hx; cases hx
    | some l =>
      rw [hE] at hx; cases hx
      have hi := lt_of_get hE
      obtain ⟨Es, el, lL, en⟩ := ly l (List.mem_of_getElem? hE)
      obtain ⟨X, hX⟩ := skol ([] : List Str) (P := fun e => e ∈ Es) (R := fun e xs => xs.length = n0 ∧ (e, MO.lst (xs.map PV.str)) ∈ L) en
      have m3 := he.hd.ats _ (List.mem_append_right [_, _, _] lL)
      dsimp only at m3
      walk_at "on"
      refine ⟨fun j => cellV n0 fun q => (X (Es.getD j 0)).getD q ⟨#[]⟩, by rw [List.length_map]; omega, fun M2 sb => .inl (sb _ _ m3), fun j x M2 Q2 hx sb k2 => ?_, fun D l2 hD hl2 => ?_⟩
      · rw [List.getElem?_map] at hx
        cases hF : Es[j]? with
        | none => rw [hF] at hx; cases hx
        | some e2 =>
          rw [hF] at hx; cases hx
          obtain ⟨xl, eL⟩ := hX e2 (List.mem_of_getElem? hF)
          have m4 := sb _ _ (he.hd.ats _ (List.mem_append_right [_, _, _] eL))
          dsimp only at m4
          refine ⟨_, rfl, ?_⟩
          dsimp only at k2
          rw [getD_get hF] at k2
          have ev : PV.tup ((X e2).map PV.str) = cellV n0 fun q => (X e2).getD q ⟨#[]⟩ := by
            refine congrArg PV.tup ?_
            conv => lhs; rw [mk_of (X e2) ⟨#[]⟩, mk_map, xl]
          rw [← ev] at k2
          walk_at "on"
          exact k2 _ (.refl _)
      · subst hl2
        rw [List.length_map, el]
        replace he := he.new (o := .lst (mk n2 fun j => cellV n0 fun q => (X (Es.getD j 0)).getD q ⟨#[]⟩)) hD
        walk_at "on"
        refine ⟨_, he.get 1 rfl, by omega, ?_⟩
        refine ⟨_, _, by walk_at "subs", .refl _, _, _, _, _, rfl, by rw [List.length_append, rl]; rfl, fun x hx => ?_, he.up1.d0⟩
        rcases List.mem_append.mp hx with h | h
        · exact hrw x h
        · exact ⟨fun j q => (X (Es.getD j 0)).getD q ⟨#[]⟩, List.mem_singleton.mp h⟩
  · clear he m2
    rintro σ M9 ⟨rows, w5, w6, w7, rfl, rl, hrw, he⟩
    rw [List.length_map] at rl
    obtain ⟨C, rfl⟩ := ex_mk (rowV n0 n2) (fun _ _ => ⟨#[]⟩) (n := n1) (by omega) hrw
    have m0 := he.get 0 rfl
    have m1 := he.get 1 rfl
    walk_at "on"
    exact ⟨_, .refl _, k W C _ hW he.env he.keep⟩

def menuI : List (List Int) := [[1, 1, 1], [2, 1, 1], [2, 2, 1], [2, 2, 2], [3, 2, 1], [3, 2, 2], [3, 3, 1], [3, 3, 2], [4, 1, 1], [4, 2, 1], [3, 2, 2], [2, 2, 2]]
def menuC (t o : List Int) : Bool := match o with
  | [x, y, z] => decide (0 ≤ x) && decide (0 ≤ y) && decide (0 ≤ z) && match t[x.toNat]?, t[y.toNat]?, t[z.toNat]? with
    | some p, some q, some r => decide (1 ≤ p) && decide (p ≤ 4) && decide (1 ≤ q) && decide (q ≤ 4) && decide (1 ≤ r) && decide (r ≤ 4) && decide (p.toNat * q.toNat * r.toNat ≤ 32)
    | _, _, _ => false
  | _ => false
theorem menu_all : (menuI.all fun t => (ordL 3 3).all fun o => menuC t o) = true := by decide +kernel
theorem menu_ok {t o : List Int} (ht : t ∈ menuI) (ho : o ∈ ordL 3 3) : ∃ (x y z : Int) (n0 n1 n2 : Nat), o = [x, y, z] ∧ atI (t.map PV.int) x = some (.int (n0 : Nat)) ∧ atI (t.map PV.int) y = some (.int (n1 : Nat)) ∧ atI (t.map PV.int) z = some (.int (n2 : Nat)) ∧
    1 ≤ n0 ∧ n0 ≤ 4 ∧ 1 ≤ n1 ∧ n1 ≤ 4 ∧ 1 ≤ n2 ∧ n2 ≤ 4 ∧ n0 * n1 * n2 ≤ 32 := by
  have h := List.all_eq_true.mp (List.all_eq_true.mp menu_all t ht) o ho
  match o, h with
  | [x, y, z], h =>
    have ai : ∀ {x p : Int}, 0 ≤ x → 1 ≤ p → t[x.toNat]? = some p → atI (t.map PV.int) x = some (.int (p.toNat : Nat)) := fun {x p} h0 h1 e => by
      obtain ⟨m, rfl⟩ : ∃ m : Nat, x = (m : Int) := ⟨x.toNat, by omega⟩
      rw [Int.toNat_natCast] at e
      rw [show ((p.toNat : Nat) : Int) = p by omega]
      exact atI_nat (by rw [List.getElem?_map, e]; rfl)
    unfold menuC at h
    simp only [Bool.and_eq_true, decide_eq_true_eq] at h
    obtain ⟨⟨⟨hx, hy⟩, hz⟩, h⟩ := h
    cases e1 : t[x.toNat]? with
    | none => rw [e1] at h; cases h
    | some p => cases e2 : t[y.toNat]? with
      | none => rw [e1, e2] at h; cases h
      | some q => cases e3 : t[z.toNat]? with
        | none => rw [e1, e2, e3] at h; cases h
        | some r =>
          rw [e1, e2, e3] at h
          simp only [Bool.and_eq_true, decide_eq_true_eq] at h
          obtain ⟨⟨⟨⟨⟨⟨p1, p2⟩, q1⟩, q2⟩, r1⟩, r2⟩, pr⟩ := h
          exact ⟨x, y, z, p.toNat, q.toNat, r.toNat, rfl, ai hx p1 e1, ai hy q1 e2, ai hz r1 e3, by omega, by omega, by omega, by omega, by omega, by omega, pr⟩
theorem few4 {r : Int} (h0 : 0 ≤ r) (h1 : r < 4) : ∃ z : Nat, atI [PV.int 2, PV.int 1, PV.int 2, PV.int 3] r = some (.int (z : Nat)) ∧ 1 ≤ z ∧ z ≤ 3 := by
  obtain h | h | h | h : r = 0 ∨ r = 1 ∨ r = 2 ∨ r = 3 := by omega
  all_goals subst h
  · exact ⟨2, rfl, by decide, by decide⟩
  · exact ⟨1, rfl, by decide, by decide⟩
  · exact ⟨2, rfl, by decide, by decide⟩
  · exact ⟨3, rfl, by decide, by decide⟩
theorem idP {n0 n1 n2 : Nat} : IV3 n0 n1 n2 (fun _ k => k) (fun _ k => k) := ⟨fun _ _ => ⟨fun _ h => h, fun _ h => h, fun _ _ => rfl, fun _ _ => rfl⟩⟩
/-- the cells of a table as lists -/
def cubF (n0 n1 n2 : Nat) (C : Nat → Nat → Nat → Str) : Cub := mk n1 fun i => mk n2 fun j => mk n0 fun c => C i j c
theorem cub_v {n0 n1 n2 : Nat} {C : Nat → Nat → Nat → Str} : tabF n0 n1 n2 C = cuV (cubF n0 n1 n2 C) := by
  unfold cubF
  refine congrArg PV.tup ?_
  rw [mk_map]
  refine mk_congr fun i _ => congrArg PV.tup ?_
  rw [mk_map]
  exact mk_congr fun j _ => congrArg PV.tup (by rw [mk_map])
theorem tab_tb {n0 n1 n2 : Nat} {W : Nat → Int} {C : Nat → Nat → Nat → Str} : tab n0 n1 n2 W C = tbV (mk n0 W) (cubF n0 n1 n2 C) := by
  show PV.tup [_, _] = PV.tup [_, _]
  rw [cub_v, show tabW n0 W = .tup ((mk n0 W).map PV.int) by rw [mk_map]]
/-- rows of w lists of n texts, m of them -/
structure Sz (C : Cub) (m w n : Nat) : Prop where
  m : C.length = m
  rw : ∀ r ∈ C, r.length = w
  en : ∀ r ∈ C, ∀ e ∈ r, e.length = n
theorem cub_sz {n0 n1 n2 : Nat} {C : Nat → Nat → Nat → Str} : Sz (cubF n0 n1 n2 C) n1 n2 n0 := by
  refine ⟨mk_len, fun r hr => ?_, fun r hr e he => ?_⟩
  · obtain ⟨i, _, rfl⟩ := mk_mem.mp hr
    exact mk_len
  · obtain ⟨i, _, rfl⟩ := mk_mem.mp hr
    obtain ⟨j, _, rfl⟩ := mk_mem.mp he
    exact mk_len
theorem Sz.tb {C : Cub} {m w n : Nat} (h : Sz C m w n) (m1 : 1 ≤ m) (w1 : 1 ≤ w) (n1 : 1 ≤ n) (m2 : m < 64) (w2 : w < 64) (n2 : n < 64) {ws : List Int} (ne : ws ≠ []) (ln : ws.length ≤ 1000) (sm : ∀ x ∈ ws, x.natAbs < 2 ^ 200) : TB ws C w n :=
  ⟨ne, ln, sm, ⟨fun e => by have := h.m; subst e; simp at this; omega, h.rw, h.en, w1, n1, by rw [h.m]; omega, by omega, by omega⟩, by rw [h.m]; exact m2, w2, n2⟩
theorem take1_len {α : Type} {l : List α} (h : 1 ≤ l.length) : (l ++ l.take 1).length = l.length + 1 := by
  rw [List.length_append, List.length_take]; omega
theorem take1_mem {α : Type} {l : List α} {x : α} (h : x ∈ l ++ l.take 1) : x ∈ l := (List.mem_append.mp h).elim id List.mem_of_mem_take
theorem Sz.r1 {C : Cub} {m w n : Nat} (h : Sz C m w n) (m1 : 1 ≤ m) : Sz (C ++ C.take 1) (m + 1) w n :=
  ⟨by rw [take1_len (by rw [h.m]; exact m1), h.m], fun r hr => h.rw r (take1_mem hr), fun r hr => h.en r (take1_mem hr)⟩
theorem Sz.r2 {C : Cub} {m w n : Nat} (h : Sz C m w n) (w1 : 1 ≤ w) : Sz (C.map fun r => r ++ r.take 1) m (w + 1) n := by
  refine ⟨by rw [List.length_map, h.m], fun r hr => ?_, fun r hr e he => ?_⟩
  · obtain ⟨q, hq, rfl⟩ := List.mem_map.mp hr
    rw [take1_len (by rw [h.rw q hq]; exact w1), h.rw q hq]
  · obtain ⟨q, hq, rfl⟩ := List.mem_map.mp hr
    exact h.en q hq e (take1_mem he)
theorem Sz.r3 {C : Cub} {m w n : Nat} (h : Sz C m w n) (n1 : 1 ≤ n) : Sz (C.map fun r => r.map fun e => e ++ e.take 1) m w (n + 1) := by
  refine ⟨by rw [List.length_map, h.m], fun r hr => ?_, fun r hr e he => ?_⟩
  · obtain ⟨q, hq, rfl⟩ := List.mem_map.mp hr
    rw [List.length_map, h.rw q hq]
  · obtain ⟨q, hq, rfl⟩ := List.mem_map.mp hr
    obtain ⟨f, hf, rfl⟩ := List.mem_map.mp he
    rw [take1_len (by rw [h.en q hq f hf]; exact n1), h.en q hq f hf]

theorem ok_law {P : Program} {w : World} {K : Kf} {mg : Str → Option Value} {base : Heap} {f : Addr} {fd : FuncData} (F : Fun K "law" "law" s_law f fd) (T : Blt mg) (Su : Sure P base) (C__law_all_arrangements : Callee P w K mg base 35 "_law_all_arrangements" ["table", "sizes"] (sp__law_all_arrangements K)) (C__law_draw : Callee P w K mg base 34 "_law_draw" ["script", "source", "limit"] (sp__law_draw K)) (C__law_least : Callee P w K mg base 34 "_law_least" ["tables"] (sp__law_least K)) (C__law_least_told : Callee P w K mg base 55 "_law_least_told" ["table", "sizes", "least"] (sp__law_least_told K)) (C__law_name : Callee P w K mg base 35 "_law_name" ["script", "source", "used"] (sp__law_name K)) (C__law_order : Callee P w K mg base 35 "_law_order" ["script", "source", "count"] (sp__law_order K)) (C__law_reduced : Callee P w K mg base 35 "_law_reduced" ["weights"] (sp__law_reduced K)) (C__law_reduced_told : Callee P w K mg base 37 "_law_reduced_told" ["table"] (sp__law_reduced_told K)) (C__law_repeated : Callee P w K mg base 34 "_law_repeated" ["table"] (sp__law_repeated K)) (C__law_small_table : Callee P w K mg base 36 "_law_small_table" ["script", "source", "sizes", "outcomes"] (sp__law_small_table K)) (C__law_source : Callee P w K mg base 34 "_law_source" ["script"] (sp__law_source K)) (C__law_spoilt_weights : Callee P w K mg base 35 "_law_spoilt_weights" ["script", "source", "weights"] (sp__law_spoilt_weights K)) : FnOk P w K mg base CX0 56 f fd ["script"] (concF K (spLaw K)) := by
  refine law_of F sc_law (fun vs M Q E h => by obtain ⟨_, _, rfl, _⟩ := h; rfl) (fun f cdv A outer s H E hr => ⟨_, (psscons (psset 1 sc_law.nd (pcall C__law_source (by exact hr.mono (by first | decide | omega)) (pacons (pv 0) panil)))
      (psscons (psset 2 sc_law.nd (plst (pacons (ptup (pacons pinT (pacons pinT (pacons pinT panil)))) (pacons (ptup (pacons pinT (pacons pinT (pacons pinT panil)))) (pacons (ptup (pacons pinT (pacons pinT (pacons pinT panil)))) (pacons (ptup (pacons pinT (pacons pinT (pacons pinT panil)))) (pacons (ptup (pacons pinT (pacons pinT (pacons pinT panil)))) (pacons (ptup (pacons pinT (pacons pinT (pacons pinT panil)))) (pacons (ptup (pacons pinT (pacons pinT (pacons pinT panil)))) (pacons (ptup (pacons pinT (pacons pinT (pacons pinT panil)))) (pacons (ptup (pacons pinT (pacons pinT (pacons pinT panil)))) (pacons (ptup (pacons pinT (pacons pinT (pacons pinT panil)))) (pacons (ptup (pacons pinT (pacons pinT (pacons pinT panil)))) (pacons (ptup (pacons pinT (pacons pinT (pacons pinT panil)))) panil))))))))))))))
      (psscons (psset 3 sc_law.nd (pixK (K := K) (pv 2) (pcall C__law_draw (by exact hr.mono (by first | decide | omega)) (pacons (pv 0) (pacons (pv 1) (pacons pinT panil))))))
      (psscons (psset 4 sc_law.nd (pcall C__law_order (by exact hr.mono (by first | decide | omega)) (pacons (pv 0) (pacons (pv 1) (pacons pinT panil)))))
      (psscons (psset 5 sc_law.nd (plst (pacons (pixK (K := K) (pv 3) (pixK (K := K) (pv 4) pinT)) (pacons (pixK (K := K) (pv 3) (pixK (K := K) (pv 4) pinT)) (pacons (pixK (K := K) (pv 3) (pixK (K := K) (pv 4) pinT)) panil)))))
      (psscons (psset 6 sc_law.nd (plst panil))
      (psscons (psfor PassesOwn.never rfl (pirng1 (by rfl) T.b_range (pacons (pixK (K := K) (plst (pacons pinT (pacons pinT (pacons pinT (pacons pinT panil))))) (pcall C__law_draw (by exact hr.mono (by first | decide | omega)) (pacons (pv 0) (pacons (pv 1) (pacons pinT panil))))) panil)) (pgname (i := 7) sc_law.nd) (pssone (psexpr (pbmK (K := K) PySem.F.plainAttrs_list PySem.F.slot_list_append PySem.F.type_list_append mAppend (pv 6) (pacons (pcall C__law_name (by exact hr.mono (by first | decide | omega)) (pacons (pv 0) (pacons (pv 1) (pacons (pv 6) panil)))) panil)))))
      (psscons (psset 8 sc_law.nd (pcall C__law_small_table (by exact hr.mono (by first | decide | omega)) (pacons (pv 0) (pacons (pv 1) (pacons (pv 5) (pacons (pv 6) panil))))))
      (psscons (psset 9 sc_law.nd (pcall C__law_all_arrangements (by exact hr.mono (by first | decide | omega)) (pacons (pv 8) (pacons (pv 5) panil))))
      (psscons (psset 10 sc_law.nd (pcall C__law_least (by exact hr.mono (by first | decide | omega)) (pacons (pv 9) panil)))
      (psscons (psset 11 sc_law.nd (pixK (K := K) (pv 9) (pcall C__law_draw (by exact hr.mono (by first | decide | omega)) (pacons (pv 0) (pacons (pv 1) (pacons (pcallB (cLenK (K := K)) (by rfl) T.b_len (by decide +kernel) (pacons (pv 9) panil)) panil))))))
      (psscons (psifc (PW.pt (pwor (ptnot (ptval (pcall C__law_least_told (by exact hr.mono (by first | decide | omega)) (pacons (pv 8) (pacons (pv 5) (pacons (pv 10) panil)))))) (pwor1 (ptnot (ptval (pcall C__law_least_told (by exact hr.mono (by first | decide | omega)) (pacons (pv 11) (pacons (pv 5) (pacons (pv 10) panil))))))))) (pssone (psret pbl)) pssnil)
      (psscons (psif (ptnot (ptval (pcall C__law_least_told (by exact hr.mono (by first | decide | omega)) (pacons (pv 10) (pacons (pv 5) (pacons (pv 10) panil)))))) (pssone (psret pbl)) pssnil)
      (psscons (psset 12 sc_law.nd (ptup (pacons (pcall C__law_reduced (by exact hr.mono (by first | decide | omega)) (pacons (pixK (K := K) (pv 8) pinT) panil)) (pacons (pixK (K := K) (pv 8) pinT) panil))))
      (psscons (psset 13 sc_law.nd (pop opAdd pinT (pcall C__law_draw (by exact hr.mono (by first | decide | omega)) (pacons (pv 0) (pacons (pv 1) (pacons pinT panil))))))
      (psscons (psset 14 sc_law.nd (ptup (pacons (pcallTy (cTupleK (K := K)) (by rfl) T.b_tuple (by decide +kernel) (pacons (plc1 17 rfl sc_law.nd (piseqK (K := K) (pixK (K := K) (pv 8) pinT)) (blkOk_by (own := [("weight", 17)]) (N := ["script", "source", "menu", "size", "turn", "sizes", "outcomes", "k", "table", "every", "least", "other", "lowest", "factor", "times_more", "below", "one", "weight"]) (sc := defScope s_law) (by decide +kernel)) (by decide) (fun _ _ _ _ _ => pg_name (i := 17) sc_law.nd rfl (Or.inl rfl)) (fun _ _ _ _ _ => ptsnil) (fun _ _ _ _ _ => (pop opMul (pv 13) (pv 17)))) panil)) (pacons (pixK (K := K) (pv 8) pinT) panil))))
      (psscons (psset 15 sc_law.nd (ptup (pacons (pcall C__law_spoilt_weights (by exact hr.mono (by first | decide | omega)) (pacons (pv 0) (pacons (pv 1) (pacons (pixK (K := K) (pv 8) pinT) panil)))) (pacons (pixK (K := K) (pv 8) pinT) panil))))
      (psscons (psfor PassesOwn.never rfl (piseqK (K := K) (pop opAdd (plst (pacons (pv 8) (pacons (pv 12) (pacons (pv 14) (pacons (pv 15) (pacons (pv 11) panil)))))) (pcall C__law_repeated (by exact hr.mono (by first | decide | omega)) (pacons (pv 12) panil)))) (pgname (i := 16) sc_law.nd) (pssone (psif (ptnot (ptval (pcall C__law_reduced_told (by exact hr.mono (by first | decide | omega)) (pacons (pv 16) panil)))) (pssone (psret pbl)) pssnil)))
      (pssone (psret (pcall C__law_least_told (by exact hr.mono (by first | decide | omega)) (pacons (pv 8) (pacons (pv 5) (pacons (pv 10) panil)))))))))))))))))))))))), fun vs M Q Ep h => ?_⟩)
  obtain ⟨a, ns, rfl, hrd, hlen, hbits, k⟩ := h
  walk_at "go"
  refine ⟨a, ns, rfl, hrd, fun s M1 m hs0 sb hs1 hm => ?_⟩
  have e1 := Env.first hrd hs0 sb hs1 hm hlen hbits
  have he := He.start e1
  have k0 : ∀ M', Keep s M1 M' → Sub M M' := fun M' kk b o hb => kk b o (neM hb hs0) (sb _ _ hb)
  walk_at "on"
  refine al he fun mn hmn he => ?_
  replace he := he (.lst (menuI.map fun t => .tup (t.map PV.int)))
  walk_at "on"
  refine dr he (by decide) (by decide) fun r M2 r0 r1 he => ?_
  obtain ⟨q, hq, _, aq⟩ := at_mem (l := menuI.map fun t => PV.tup (t.map PV.int)) r0 (by show r < 12; exact r1)
  obtain ⟨t, ht, rfl⟩ := List.mem_map.mp hq
  have hmn1 := he.get 0 rfl
  walk_at "on"
  refine ⟨a, s, ns, 3, rfl, he.env, by decide, fun o M3 ho e3 k3 => ?_⟩
  replace he := (he.call e3 k3).nil
  obtain ⟨x, y, z, n0, n1, n2, rfl, ax, ay, az, g0, b0, g1, b1, g2, b2, pr⟩ := menu_ok ht (ord_in ho)
  have o0 : atI ([x, y, z].map PV.int) 0 = some (.int x) := rfl
  have o1 : atI ([x, y, z].map PV.int) 1 = some (.int y) := rfl
  have o2 : atI ([x, y, z].map PV.int) 2 = some (.int z) := rfl
  walk_at "on"
  refine al he fun zz hzz he => ?_
  replace he := he (.lst [.int (n0 : Nat), .int (n1 : Nat), .int (n2 : Nat)])
  walk_at "on"
  refine al he fun oc hoc he => ?_
  replace he := he (.lst [])
  walk_at "on"
  refine al he fun tm htm he => ?_
  replace he := he (.lst [.int 2, .int 1, .int 2, .int 3])
  walk_at "on"
  refine dr he (by decide) (by decide) fun r' M4 r0' r1' he => ?_
  obtain ⟨w, aw, w1, w3⟩ := few4 r0' r1'
  have htm1 := he.get 0 rfl
  walk_at "on"
  refine ⟨by omega, ?_⟩
  refine ⟨fun i σ M' => ∃ (us : List Str) (w7 : Option PV), σ = [some (.ref a), some (.ref s), some (.ref mn), some (.tup (t.map PV.int)), some (.tup ([x, y, z].map PV.int)), some (.ref zz), some (.ref oc), w7, none, none, none, none, none, none, none, none, none, none] ∧ us.length = i ∧ He K [] a s ns M1 M' [(oc, .lst (us.map PV.str)), (zz, .lst [.int (n0 : Nat), .int (n1 : Nat), .int (n2 : Nat)])], ⟨_, _, by walk_at "subs", .refl _, [], _, rfl, rfl, he.d0⟩, fun _ _ _ _ => trivial, ?_, ?_⟩
  · clear he htm1
    rintro i v σ M5 hv ⟨us, w7, rfl, ul, he⟩
    obtain ⟨hi, rfl⟩ := rng_get hv
    have hi : i < w := by omega
    have sz := sizeLine_eq
    walk_at "on"
    refine ⟨a, s, oc, ns, us, rfl, he.env, .inl (he.get 0 rfl), he.ne_s 0 rfl, by omega, fun u M6 _ _ e6 k6 => ?_⟩
    replace he := he.call e6 k6
    walk_at "on"
    refine ⟨_, he.get 0 rfl, by rw [List.length_map]; omega, ?_⟩
    refine ⟨_, _, by walk_at "subs", .refl _, us ++ [u], _, rfl, by rw [List.length_append, ul]; rfl, ?_⟩
    rw [List.map_append]
    exact he.up0
  clear he htm1
  rintro σ M5 ⟨us, w7, rfl, ul, he⟩
  rw [rng_len] at ul
  have ul : us.length = w := by omega
  walk_at "on"
  refine ⟨a, s, zz, oc, ns, n0, n1, n2, us, rfl, he.env, he.ne_s 1 rfl, he.ne_s 0 rfl, he.get 1 rfl, he.get 0 rfl, (fun e => by subst e; simp at ul; omega), by omega, g0, g1, g2, by omega, by omega, by omega, fun W C M6 hW e6 k6 => ?_⟩
  replace he := (he.call e6 k6).d0
  have hz6 := he.get 0 rfl
  walk_at "on"
  refine ⟨zz, n0, n1, n2, W, C, rfl, hz6, b0, b1, b2, fun ev M7 hp0 hp1 sb7 => ?_⟩
  replace he := he.addn sb7 hp0 hp1
  have mem := fun T => allA_mem (n0 := n0) (n1 := n1) (n2 := n2) (W := W) (C := C) b0 b1 b2 (T := T)
  generalize hF : allA n0 n1 n2 W C = F at hp1 he mem
  have hFne : F ≠ [] := fun e => by
    have := (mem _).mpr ⟨_, _, idP, rfl⟩
    rw [e] at this; cases this
  have Ft : ∀ x ∈ F, ∃ W C, x = tab n0 n1 n2 W C := fun x hx => by
    obtain ⟨P, R, _, rfl⟩ := (mem x).mp hx
    exact ⟨_, _, rfl⟩
  have Fl : F.length ≤ 24 * (24 * 24) := by
    rw [← hF]
    exact Nat.le_trans (flat_le (m := 24 * 24) fun x _ => Nat.le_trans (flat_le (m := 24) fun y _ => by rw [List.length_map]; exact all_or (Nat.le_refl n2) b2) (Nat.mul_le_mul (all_or (Nat.le_refl n1) b1) (Nat.le_refl 24))) (Nat.mul_le_mul (all_or (Nat.le_refl n0) b0) (Nat.le_refl _))
  have Fp := List.length_pos_iff.mpr hFne
  walk_at "on"
  refine ⟨ev, F, n0, n1, n2, rfl, hp1, hFne, by omega, by omega, by omega, Ft, fun T M8 hT hmin sb8 => ?_⟩
  replace he := he.step sb8
  obtain ⟨S, R, hS, rfl⟩ := (mem T).mp hT
  have least : IsLeast n0 n1 n2 W C (arrP n0 n1 n2 W C S) := ⟨⟨S, R, hS, rfl⟩, fun S' R' h => hmin _ ((mem _).mpr ⟨S', R', h, rfl⟩)⟩
  have hev := he.get 0 rfl
  walk_at "on"
  refine dr he (by omega) (bits64 (by omega)) fun r9 M9 r90 r91 he => ?_
  obtain ⟨q9, hq9, _, aq9⟩ := at_mem (l := F) r90 r91
  obtain ⟨P, P', hP, rfl⟩ := (mem q9).mp hq9
  have hev9 := he.get 0 rfl
  have hz9 := he.get 1 rfl
  walk_at "on"
  refine ⟨fun b M' => b = false ∧ Sub M9 M', ?_, ?_⟩
  · walk_at "on"
    refine ⟨zz, n0, n1, n2, W, C, _, rfl, hz9, g0, g1, g2, pr, least, fun Ma sba => ?_⟩
    walk_at "on"
    refine ⟨zz, n0, n1, n2, _, _, _, rfl, sba _ _ hz9, g0, g1, g2, pr, least.arr hP, fun Mb sbb => ?_⟩
    walk_at "on"
    exact ⟨_, .refl _, rfl, sba.trans sbb⟩
  rintro b M10 ⟨rfl, sb10⟩
  replace he := he.step sb10
  have hz10 := he.get 1 rfl
  walk_at "on"
  refine ⟨zz, n0, n1, n2, _, _, _, rfl, hz10, g0, g1, g2, pr, least.arr hS, fun M11 sb11 => ?_⟩
  replace he := he.step sb11
  have p200 : (1000 : Nat) < 2 ^ 200 := by decide
  walk_at "on"
  refine ⟨_, mk n0 W, rfl, .inl (by rw [mk_map]), ⟨by rw [mk_len]; omega, fun w hw => ?_⟩, fun rs hrs => ?_⟩
  · obtain ⟨c, hc, rfl⟩ := mk_mem.mp hw
    have := hW c hc
    exact ⟨by omega, by omega⟩
  have rl := hrs.len
  rw [mk_len] at rl
  have rr := hrs.range fun w hw => by
    obtain ⟨c, hc, rfl⟩ := mk_mem.mp hw
    exact hW c hc
  walk_at "on"
  refine dr he (by decide) (by decide) fun f M12 f0 f1 he => ?_
  walk_at "on"
  refine al he fun D hD he => ?_
  replace he := he (.lst [])
  refine ⟨fun i acc M' => acc = mk i (fun c => .int ((2 + f) * W c)) ∧ He K [] a s ns M1 M' [(D, .lst acc), (ev, .lst F), (zz, .lst [.int (n0 : Nat), .int (n1 : Nat), .int (n2 : Nat)])], ⟨_, .refl _, rfl, he⟩, fun _ _ _ _ => trivial, ?_, ?_⟩
  · clear he
    rintro i v acc M13 hv ⟨rfl, he⟩
    obtain ⟨hi, rfl⟩ := mk_get hv
    have hw := hW i hi
    have sz := sizeLine_eq
    walk_at "on"
    refine ⟨IntMulOk.of_le (m := 64) (n := 64) (bits64 (by omega)) (bits64 (by omega)) (by decide), ?_⟩
    refine ⟨he.get 0 rfl, by rw [mk_len]; omega, _, .refl _, ?_, he.up0⟩
    rw [mk_succ]
  clear he
  rintro acc M13 ⟨rfl, he⟩
  rw [mk_len] at he
  have hD13 := he.get 0 rfl
  walk_at "on"
  refine ⟨a, s, ns, mk n0 W, by rw [mk_map], he.env, (fun e => by have := congrArg List.length e; rw [mk_len] at this; simp at this; omega), by rw [mk_len]; omega, fun x hx => ?_, fun us M14 usl usb e14 k14 => ?_⟩
  · obtain ⟨c, hc, rfl⟩ := mk_mem.mp hx
    have := hW c hc
    omega
  rw [mk_len] at usl
  replace he := (he.call e14 k14).d0
  walk_at "on"
  refine al he fun d5 hd5 he => ?_
  have sz := sizeLine_eq
  have cs := cub_sz (n0 := n0) (n1 := n1) (n2 := n2) (C := C)
  have e5 : (PV.tup [PV.tup (mk n0 fun c => PV.int ((2 + f) * W c)), tabF n0 n1 n2 C]) = tbV (mk n0 fun c => (2 + f) * W c) (cubF n0 n1 n2 C) := by
    rw [cub_v]
    exact congrArg (fun x => PV.tup [.tup x, cuV (cubF n0 n1 n2 C)]) (by rw [mk_map])
  generalize hA5 : ([tab n0 n1 n2 W C, .tup [.tup (rs.map PV.int), tabF n0 n1 n2 C], .tup [.tup (mk n0 fun c => .int ((2 + f) * W c)), tabF n0 n1 n2 C], .tup [.tup (us.map PV.int), tabF n0 n1 n2 C], arrP n0 n1 n2 W C P] : List PV) = A5
  replace he := he (.lst A5)
  walk_at "on"
  refine ⟨rs, cubF n0 n1 n2 C, by rw [cub_v], by omega, by rw [cs.m]; omega, fun r hr => ⟨by rw [cs.rw r hr]; omega, fun e he => by rw [cs.en r hr e he]; omega⟩, fun rp M15 hr0 hr1 sb15 => ?_⟩
  generalize hA3 : ([tbV rs (cubF n0 n1 n2 C ++ (cubF n0 n1 n2 C).take 1), tbV rs ((cubF n0 n1 n2 C).map fun r => r ++ r.take 1), tbV (rs ++ [1]) ((cubF n0 n1 n2 C).map fun r => r.map fun e => e ++ e.take 1)] : List PV) = A3 at hr1
  replace he := he.addn sb15 hr0 hr1
  have hd5' := he.get 1 rfl
  have l5 : A5.length = 5 := by rw [← hA5]; rfl
  have l3 : A3.length = 3 := by rw [← hA3]; rfl
  have W0 : ∀ x ∈ mk n0 W, x.natAbs < 2 ^ 200 := fun x hx => by
    obtain ⟨c, hc, rfl⟩ := mk_mem.mp hx
    have := hW c hc
    omega
  have nen : ∀ {f : Nat → Int}, mk n0 f ≠ [] := fun e => by have := congrArg List.length e; rw [mk_len] at this; simp at this; omega
  have rne : rs ≠ [] := fun e => by subst e; simp at rl; omega
  have rsm : ∀ x ∈ rs, x.natAbs < 2 ^ 200 := fun x hx => by have := rr x hx; omega
  have tbs : ∀ x ∈ A5 ++ A3, ∃ ws C w n, x = tbV ws C ∧ TB ws C w n := fun x hx => by
    rcases List.mem_append.mp hx with hx | hx
    · rw [← hA5] at hx
      simp only [List.mem_cons, List.not_mem_nil, or_false] at hx
      rcases hx with rfl | rfl | rfl | rfl | rfl
      · exact ⟨_, _, n2, n0, tab_tb, cs.tb g1 g2 g0 (by omega) (by omega) (by omega) nen (by rw [mk_len]; omega) W0⟩
      · exact ⟨rs, _, n2, n0, by rw [cub_v], cs.tb g1 g2 g0 (by omega) (by omega) (by omega) rne (by omega) rsm⟩
      · refine ⟨_, _, n2, n0, e5, cs.tb g1 g2 g0 (by omega) (by omega) (by omega) nen (by rw [mk_len]; omega) fun x hx => ?_⟩
        obtain ⟨c, hc, rfl⟩ := mk_mem.mp hx
        obtain ⟨w1, w6⟩ := hW c hc
        have h1 : (2 + f) * W c ≤ 5 * 6 := Int.mul_le_mul (by omega) w6 (by omega) (by omega)
        have h2 : 0 ≤ (2 + f) * W c := Int.mul_nonneg (by omega) (by omega)
        omega
      · exact ⟨us, _, n2, n0, by rw [cub_v], cs.tb g1 g2 g0 (by omega) (by omega) (by omega) (fun e => by subst e; simp at usl; omega) (by omega) usb⟩
      · refine ⟨_, _, n2, n0, tab_tb, cub_sz.tb g1 g2 g0 (by omega) (by omega) (by omega) nen (by rw [mk_len]; omega) fun x hx => ?_⟩
        obtain ⟨c, hc, rfl⟩ := mk_mem.mp hx
        have := hW _ ((hP.iv 0 (by decide)).lt c hc)
        omega
    · rw [← hA3] at hx
      simp only [List.mem_cons, List.not_mem_nil, or_false] at hx
      rcases hx with rfl | rfl | rfl
      · exact ⟨rs, _, n2, n0, rfl, (cs.r1 g1).tb (by omega) g2 g0 (by omega) (by omega) (by omega) rne (by omega) rsm⟩
      · exact ⟨rs, _, n2 + 1, n0, rfl, (cs.r2 g2).tb g1 (by omega) g0 (by omega) (by omega) (by omega) rne (by omega) rsm⟩
      · refine ⟨rs ++ [1], _, n2, n0 + 1, rfl, (cs.r3 g0).tb g1 g2 (by omega) (by omega) (by omega) (by omega) (by simp) (by rw [List.length_append, List.length_singleton]; omega) fun x hx => ?_⟩
        rcases List.mem_append.mp hx with h | h
        · exact rsm x h
        · rw [List.mem_singleton.mp h]; decide
  walk_at "on"
  refine ⟨_, _, hd5', hr1, by omega, ?_⟩
  refine al he fun nl hnl he => ?_
  replace he := he (.lst (A5 ++ A3))
  have hnl1 := he.get 0 rfl
  walk_at "on"
  refine ⟨fun i σ M' => ∃ w16 : Option PV, σ = [some (.ref a), some (.ref s), some (.ref mn), some (.tup (t.map PV.int)), some (.tup ([x, y, z].map PV.int)), some (.ref zz), some (.ref oc), w7, some (tab n0 n1 n2 W C), some (.ref ev), some (arrP n0 n1 n2 W C S), some (arrP n0 n1 n2 W C P), some (.tup [.tup (rs.map PV.int), tabF n0 n1 n2 C]), some (.int (2 + f)), some (.tup [.tup (mk n0 fun c => .int ((2 + f) * W c)), tabF n0 n1 n2 C]), some (.tup [.tup (us.map PV.int), tabF n0 n1 n2 C]), w16, none] ∧ He K [] a s ns M1 M' [(nl, .lst (A5 ++ A3)), (zz, .lst [.int (n0 : Nat), .int (n1 : Nat), .int (n2 : Nat)])], ⟨_, _, by walk_at "subs", .refl _, _, rfl, he.sel [0, 4] (by decide) rfl⟩, fun i σ M' ⟨_, _, h⟩ => .inl (h.get 0 rfl), ?_, ?_⟩
  · clear he hd5' hr1 hnl1
    rintro i x σ M16 hx ⟨w16, rfl, he⟩
    obtain ⟨ws, Cx, wx, nx, rfl, tb⟩ := tbs x (List.mem_of_getElem? hx)
    walk_at "on"
    refine ⟨ws, Cx, wx, nx, rfl, tb, fun M17 sb17 => ?_⟩
    replace he := he.step sb17
    refine br_f rfl ?_
    exact ⟨_, _, by walk_at "subs", .refl _, _, rfl, he⟩
  clear he hd5' hr1 hnl1
  rintro σ M16 ⟨w16, rfl, he⟩
  have hz16 := he.get 1 rfl
  walk_at "on"
  refine ⟨zz, n0, n1, n2, W, C, _, rfl, hz16, g0, g1, g2, pr, least, fun M17 sb17 => ?_⟩
  exact ⟨M, k0 _ (he.step sb17).keep, k⟩

theorem all_mk {P : Program} {w : World} {K : Kf} {h : Heap} {mg : Str → Option Value} {fa f1 f2 f3 f4 f5 f6 f7 f8 f9 f10 f11 f12 f13 f14 f15 f16 f17 f18 f19 f20 f21 f22 f23 f24 f25 f26 f27 f28 : Addr} (X : K.In h) (G : h.Ns mainGlobals mg) (hfa : mg "law" = some (.ref fa))
    {od1 an1 od2 an2 od3 an3 od4 an4 od5 an5 od6 an6 od7 an7 od8 an8 od9 an9 od10 an10 od11 an11 od12 an12 od13 an13 od14 an14 od15 an15 od16 an16 od17 an17 od18 an18 od19 an19 od20 an20 od21 an21 od22 an22 od23 an23 od24 an24 od25 an25 od26 an26 od27 an27 od28 an28 : Option Addr} {sl1 sl2 sl3 sl4 sl5 sl6 sl7 sl8 sl9 sl10 sl11 sl12 sl13 sl14 sl15 sl16 sl17 sl18 sl19 sl20 sl21 sl22 sl23 sl24 sl25 sl26 sl27 sl28 : Array (Option Value)} {oc1 kV1 dc1 pm1 cd1 ct1 oc2 kV2 dc2 pm2 cd2 ct2 oc3 kV3 dc3 pm3 cd3 ct3 oc4 kV4 dc4 pm4 cd4 ct4 oc5 kV5 dc5 pm5 cd5 ct5 oc6 kV6 dc6 pm6 cd6 ct6 oc7 kV7 dc7 pm7 cd7 ct7 oc8 kV8 dc8 pm8 cd8 ct8 oc9 kV9 dc9 pm9 cd9 ct9 oc10 kV10 dc10 pm10 cd10 ct10 oc11 kV11 dc11 pm11 cd11 ct11 oc12 kV12 dc12 pm12 cd12 ct12 oc13 kV13 dc13 pm13 cd13 ct13 oc14 kV14 dc14 pm14 cd14 ct14 oc15 kV15 dc15 pm15 cd15 ct15 oc16 kV16 dc16 pm16 cd16 ct16 oc17 kV17 dc17 pm17 cd17 ct17 oc18 kV18 dc18 pm18 cd18 ct18 oc19 kV19 dc19 pm19 cd19 ct19 oc20 kV20 dc20 pm20 cd20 ct20 oc21 kV21 dc21 pm21 cd21 ct21 oc22 kV22 dc22 pm22 cd22 ct22 oc23 kV23 dc23 pm23 cd23 ct23 oc24 kV24 dc24 pm24 cd24 ct24 oc25 kV25 dc25 pm25 cd25 ct25 oc26 kV26 dc26 pm26 cd26 ct26 oc27 kV27 dc27 pm27 cd27 ct27 oc28 kV28 dc28 pm28 cd28 ct28 : Value} 
    (a1 : PySem.W.nsIn K mainGlobals "_law_draw" = some (some (.ref f1)))
    (l1 : K.lookup f1 = some ⟨oc1, od1, .func (PySem.W.fnOf "_law_draw" "_law_draw" (defArgs s__law_draw) (defBody s__law_draw) (defScope s__law_draw) .none kV1 dc1 pm1 an1 cd1 ct1), sl1⟩) (c1 : PySem.W.codeIn K cd1 "_law_draw" = true) (k1 : PySem.W.keepIn K (.ref f1) = true)
    (a2 : PySem.W.nsIn K mainGlobals "_law_source" = some (some (.ref f2)))
    (l2 : K.lookup f2 = some ⟨oc2, od2, .func (PySem.W.fnOf "_law_source" "_law_source" (defArgs s__law_source) (defBody s__law_source) (defScope s__law_source) .none kV2 dc2 pm2 an2 cd2 ct2), sl2⟩) (c2 : PySem.W.codeIn K cd2 "_law_source" = true) (k2 : PySem.W.keepIn K (.ref f2) = true)
    (a3 : PySem.W.nsIn K mainGlobals "_law_gcd" = some (some (.ref f3)))
    (l3 : K.lookup f3 = some ⟨oc3, od3, .func (PySem.W.fnOf "_law_gcd" "_law_gcd" (defArgs s__law_gcd) (defBody s__law_gcd) (defScope s__law_gcd) .none kV3 dc3 pm3 an3 cd3 ct3), sl3⟩) (c3 : PySem.W.codeIn K cd3 "_law_gcd" = true) (k3 : PySem.W.keepIn K (.ref f3) = true)
    (a4 : PySem.W.nsIn K mainGlobals "_law_reduced" = some (some (.ref f4)))
    (l4 : K.lookup f4 = some ⟨oc4, od4, .func (PySem.W.fnOf "_law_reduced" "_law_reduced" (defArgs s__law_reduced) (defBody s__law_reduced) (defScope s__law_reduced) .none kV4 dc4 pm4 an4 cd4 ct4), sl4⟩) (c4 : PySem.W.codeIn K cd4 "_law_reduced" = true) (k4 : PySem.W.keepIn K (.ref f4) = true)
    (a5 : PySem.W.nsIn K mainGlobals "_law_name" = some (some (.ref f5)))
    (l5 : K.lookup f5 = some ⟨oc5, od5, .func (PySem.W.fnOf "_law_name" "_law_name" (defArgs s__law_name) (defBody s__law_name) (defScope s__law_name) .none kV5 dc5 pm5 an5 cd5 ct5), sl5⟩) (c5 : PySem.W.codeIn K cd5 "_law_name" = true) (k5 : PySem.W.keepIn K (.ref f5) = true)
    (a6 : PySem.W.nsIn K mainGlobals "reduced" = some (some (.ref f6)))
    (l6 : K.lookup f6 = some ⟨oc6, od6, .func (PySem.W.fnOf "reduced" "reduced" (defArgs s_reduced) (defBody s_reduced) (defScope s_reduced) .none kV6 dc6 pm6 an6 cd6 ct6), sl6⟩) (c6 : PySem.W.codeIn K cd6 "reduced" = true) (k6 : PySem.W.keepIn K (.ref f6) = true)
    (a7 : PySem.W.nsIn K mainGlobals "_slices_of" = some (some (.ref f7)))
    (l7 : K.lookup f7 = some ⟨oc7, od7, .func (PySem.W.fnOf "_slices_of" "_slices_of" (defArgs s__slices_of) (defBody s__slices_of) (defScope s__slices_of) .none kV7 dc7 pm7 an7 cd7 ct7), sl7⟩) (c7 : PySem.W.codeIn K cd7 "_slices_of" = true) (k7 : PySem.W.keepIn K (.ref f7) = true)
    (a8 : PySem.W.nsIn K mainGlobals "_law_slices" = some (some (.ref f8)))
    (l8 : K.lookup f8 = some ⟨oc8, od8, .func (PySem.W.fnOf "_law_slices" "_law_slices" (defArgs s__law_slices) (defBody s__law_slices) (defScope s__law_slices) .none kV8 dc8 pm8 an8 cd8 ct8), sl8⟩) (c8 : PySem.W.codeIn K cd8 "_law_slices" = true) (k8 : PySem.W.keepIn K (.ref f8) = true)
    (a9 : PySem.W.nsIn K mainGlobals "_law_order" = some (some (.ref f9)))
    (l9 : K.lookup f9 = some ⟨oc9, od9, .func (PySem.W.fnOf "_law_order" "_law_order" (defArgs s__law_order) (defBody s__law_order) (defScope s__law_order) .none kV9 dc9 pm9 an9 cd9 ct9), sl9⟩) (c9 : PySem.W.codeIn K cd9 "_law_order" = true) (k9 : PySem.W.keepIn K (.ref f9) = true)
    (a10 : PySem.W.nsIn K mainGlobals "sizes_of" = some (some (.ref f10)))
    (l10 : K.lookup f10 = some ⟨oc10, od10, .func (PySem.W.fnOf "sizes_of" "sizes_of" (defArgs s_sizes_of) (defBody s_sizes_of) (defScope s_sizes_of) .none kV10 dc10 pm10 an10 cd10 ct10), sl10⟩) (c10 : PySem.W.codeIn K cd10 "sizes_of" = true) (k10 : PySem.W.keepIn K (.ref f10) = true)
    (a11 : PySem.W.nsIn K mainGlobals "arranged" = some (some (.ref f11)))
    (l11 : K.lookup f11 = some ⟨oc11, od11, .func (PySem.W.fnOf "arranged" "arranged" (defArgs s_arranged) (defBody s_arranged) (defScope s_arranged) .none kV11 dc11 pm11 an11 cd11 ct11), sl11⟩) (c11 : PySem.W.codeIn K cd11 "arranged" = true) (k11 : PySem.W.keepIn K (.ref f11) = true)
    (a12 : PySem.W.nsIn K mainGlobals "_law_arranged" = some (some (.ref f12)))
    (l12 : K.lookup f12 = some ⟨oc12, od12, .func (PySem.W.fnOf "_law_arranged" "_law_arranged" (defArgs s__law_arranged) (defBody s__law_arranged) (defScope s__law_arranged) .none kV12 dc12 pm12 an12 cd12 ct12), sl12⟩) (c12 : PySem.W.codeIn K cd12 "_law_arranged" = true) (k12 : PySem.W.keepIn K (.ref f12) = true)
    (a13 : PySem.W.nsIn K mainGlobals "all_orders" = some (some (.ref f13)))
    (l13 : K.lookup f13 = some ⟨oc13, od13, .func (PySem.W.fnOf "all_orders" "all_orders" (defArgs s_all_orders) (defBody s_all_orders) (defScope s_all_orders) .none kV13 dc13 pm13 an13 cd13 ct13), sl13⟩) (c13 : PySem.W.codeIn K cd13 "all_orders" = true) (k13 : PySem.W.keepIn K (.ref f13) = true)
    (a14 : PySem.W.nsIn K mainGlobals "_sorted_axis" = some (some (.ref f14)))
    (l14 : K.lookup f14 = some ⟨oc14, od14, .func (PySem.W.fnOf "_sorted_axis" "_sorted_axis" (defArgs s__sorted_axis) (defBody s__sorted_axis) (defScope s__sorted_axis) .none kV14 dc14 pm14 an14 cd14 ct14), sl14⟩) (c14 : PySem.W.codeIn K cd14 "_sorted_axis" = true) (k14 : PySem.W.keepIn K (.ref f14) = true)
    (a15 : PySem.W.nsIn K mainGlobals "least_arrangement" = some (some (.ref f15)))
    (l15 : K.lookup f15 = some ⟨oc15, od15, .func (PySem.W.fnOf "least_arrangement" "least_arrangement" (defArgs s_least_arrangement) (defBody s_least_arrangement) (defScope s_least_arrangement) .none kV15 dc15 pm15 an15 cd15 ct15), sl15⟩) (c15 : PySem.W.codeIn K cd15 "least_arrangement" = true) (k15 : PySem.W.keepIn K (.ref f15) = true)
    (a16 : PySem.W.nsIn K mainGlobals "_law_told" = some (some (.ref f16)))
    (l16 : K.lookup f16 = some ⟨oc16, od16, .func (PySem.W.fnOf "_law_told" "_law_told" (defArgs s__law_told) (defBody s__law_told) (defScope s__law_told) .none kV16 dc16 pm16 an16 cd16 ct16), sl16⟩) (c16 : PySem.W.codeIn K cd16 "_law_told" = true) (k16 : PySem.W.keepIn K (.ref f16) = true)
    (a17 : PySem.W.nsIn K mainGlobals "is_reduced" = some (some (.ref f17)))
    (l17 : K.lookup f17 = some ⟨oc17, od17, .func (PySem.W.fnOf "is_reduced" "is_reduced" (defArgs s_is_reduced) (defBody s_is_reduced) (defScope s_is_reduced) .none kV17 dc17 pm17 an17 cd17 ct17), sl17⟩) (c17 : PySem.W.codeIn K cd17 "is_reduced" = true) (k17 : PySem.W.keepIn K (.ref f17) = true)
    (a18 : PySem.W.nsIn K mainGlobals "_law_orders" = some (some (.ref f18)))
    (l18 : K.lookup f18 = some ⟨oc18, od18, .func (PySem.W.fnOf "_law_orders" "_law_orders" (defArgs s__law_orders) (defBody s__law_orders) (defScope s__law_orders) .none kV18 dc18 pm18 an18 cd18 ct18), sl18⟩) (c18 : PySem.W.codeIn K cd18 "_law_orders" = true) (k18 : PySem.W.keepIn K (.ref f18) = true)
    (a19 : PySem.W.nsIn K mainGlobals "_law_all_arrangements" = some (some (.ref f19)))
    (l19 : K.lookup f19 = some ⟨oc19, od19, .func (PySem.W.fnOf "_law_all_arrangements" "_law_all_arrangements" (defArgs s__law_all_arrangements) (defBody s__law_all_arrangements) (defScope s__law_all_arrangements) .none kV19 dc19 pm19 an19 cd19 ct19), sl19⟩) (c19 : PySem.W.codeIn K cd19 "_law_all_arrangements" = true) (k19 : PySem.W.keepIn K (.ref f19) = true)
    (a20 : PySem.W.nsIn K mainGlobals "_law_least" = some (some (.ref f20)))
    (l20 : K.lookup f20 = some ⟨oc20, od20, .func (PySem.W.fnOf "_law_least" "_law_least" (defArgs s__law_least) (defBody s__law_least) (defScope s__law_least) .none kV20 dc20 pm20 an20 cd20 ct20), sl20⟩) (c20 : PySem.W.codeIn K cd20 "_law_least" = true) (k20 : PySem.W.keepIn K (.ref f20) = true)
    (a21 : PySem.W.nsIn K mainGlobals "_law_are_orders" = some (some (.ref f21)))
    (l21 : K.lookup f21 = some ⟨oc21, od21, .func (PySem.W.fnOf "_law_are_orders" "_law_are_orders" (defArgs s__law_are_orders) (defBody s__law_are_orders) (defScope s__law_are_orders) .none kV21 dc21 pm21 an21 cd21 ct21), sl21⟩) (c21 : PySem.W.codeIn K cd21 "_law_are_orders" = true) (k21 : PySem.W.keepIn K (.ref f21) = true)
    (a22 : PySem.W.nsIn K mainGlobals "_law_least_told" = some (some (.ref f22)))
    (l22 : K.lookup f22 = some ⟨oc22, od22, .func (PySem.W.fnOf "_law_least_told" "_law_least_told" (defArgs s__law_least_told) (defBody s__law_least_told) (defScope s__law_least_told) .none kV22 dc22 pm22 an22 cd22 ct22), sl22⟩) (c22 : PySem.W.codeIn K cd22 "_law_least_told" = true) (k22 : PySem.W.keepIn K (.ref f22) = true)
    (a23 : PySem.W.nsIn K mainGlobals "_law_is_reduced" = some (some (.ref f23)))
    (l23 : K.lookup f23 = some ⟨oc23, od23, .func (PySem.W.fnOf "_law_is_reduced" "_law_is_reduced" (defArgs s__law_is_reduced) (defBody s__law_is_reduced) (defScope s__law_is_reduced) .none kV23 dc23 pm23 an23 cd23 ct23), sl23⟩) (c23 : PySem.W.codeIn K cd23 "_law_is_reduced" = true) (k23 : PySem.W.keepIn K (.ref f23) = true)
    (a24 : PySem.W.nsIn K mainGlobals "_law_reduced_told" = some (some (.ref f24)))
    (l24 : K.lookup f24 = some ⟨oc24, od24, .func (PySem.W.fnOf "_law_reduced_told" "_law_reduced_told" (defArgs s__law_reduced_told) (defBody s__law_reduced_told) (defScope s__law_reduced_told) .none kV24 dc24 pm24 an24 cd24 ct24), sl24⟩) (c24 : PySem.W.codeIn K cd24 "_law_reduced_told" = true) (k24 : PySem.W.keepIn K (.ref f24) = true)
    (a25 : PySem.W.nsIn K mainGlobals "_law_spoilt_weights" = some (some (.ref f25)))
    (l25 : K.lookup f25 = some ⟨oc25, od25, .func (PySem.W.fnOf "_law_spoilt_weights" "_law_spoilt_weights" (defArgs s__law_spoilt_weights) (defBody s__law_spoilt_weights) (defScope s__law_spoilt_weights) .none kV25 dc25 pm25 an25 cd25 ct25), sl25⟩) (c25 : PySem.W.codeIn K cd25 "_law_spoilt_weights" = true) (k25 : PySem.W.keepIn K (.ref f25) = true)
    (a26 : PySem.W.nsIn K mainGlobals "_law_repeated" = some (some (.ref f26)))
    (l26 : K.lookup f26 = some ⟨oc26, od26, .func (PySem.W.fnOf "_law_repeated" "_law_repeated" (defArgs s__law_repeated) (defBody s__law_repeated) (defScope s__law_repeated) .none kV26 dc26 pm26 an26 cd26 ct26), sl26⟩) (c26 : PySem.W.codeIn K cd26 "_law_repeated" = true) (k26 : PySem.W.keepIn K (.ref f26) = true)
    (a27 : PySem.W.nsIn K mainGlobals "_law_small_table" = some (some (.ref f27)))
    (l27 : K.lookup f27 = some ⟨oc27, od27, .func (PySem.W.fnOf "_law_small_table" "_law_small_table" (defArgs s__law_small_table) (defBody s__law_small_table) (defScope s__law_small_table) .none kV27 dc27 pm27 an27 cd27 ct27), sl27⟩) (c27 : PySem.W.codeIn K cd27 "_law_small_table" = true) (k27 : PySem.W.keepIn K (.ref f27) = true)
    (a28 : PySem.W.nsIn K mainGlobals "law" = some (some (.ref f28)))
    (l28 : K.lookup f28 = some ⟨oc28, od28, .func (PySem.W.fnOf "law" "law" (defArgs s_law) (defBody s_law) (defScope s_law) .none kV28 dc28 pm28 an28 cd28 ct28), sl28⟩) (c28 : PySem.W.codeIn K cd28 "law" = true) (k28 : PySem.W.keepIn K (.ref f28) = true)
    (z_abs : PySem.W.nsIn K mainGlobals "abs" = some none)
    (z_bool : PySem.W.nsIn K mainGlobals "bool" = some none)
    (z_dict : PySem.W.nsIn K mainGlobals "dict" = some none)
    (z_int : PySem.W.nsIn K mainGlobals "int" = some none)
    (z_isinstance : PySem.W.nsIn K mainGlobals "isinstance" = some none)
    (z_len : PySem.W.nsIn K mainGlobals "len" = some none)
    (z_list : PySem.W.nsIn K mainGlobals "list" = some none)
    (z_max : PySem.W.nsIn K mainGlobals "max" = some none)
    (z_min : PySem.W.nsIn K mainGlobals "min" = some none)
    (z_range : PySem.W.nsIn K mainGlobals "range" = some none)
    (z_set : PySem.W.nsIn K mainGlobals "set" = some none)
    (z_sorted : PySem.W.nsIn K mainGlobals "sorted" = some none)
    (z_str : PySem.W.nsIn K mainGlobals "str" = some none)
    (z_tuple : PySem.W.nsIn K mainGlobals "tuple" = some none)
    (y_gcd : PySem.W.nsIn K mainGlobals "gcd" = some (some (.builtin "math.gcd")))
    : ∃ fd : FuncData, (∀ (s : Shared) (v : Value), BindsTo s fd ⟨[v], []⟩ [("script", v)]) ∧ ∀ base : Heap, K.In base → base.Ns mainGlobals mg → Sure P base → FnOk P w K mg base CX0 56 fa fd ["script"] (concF K (spLaw K)) := by
  have e := hfa.symm.trans (PySem.W.mg_of X G a28)
  cases e
  have T : Blt mg := ⟨PySem.W.mg_none_of X G z_abs, PySem.W.mg_none_of X G z_bool, PySem.W.mg_none_of X G z_dict, PySem.W.mg_none_of X G z_int, PySem.W.mg_none_of X G z_isinstance, PySem.W.mg_none_of X G z_len, PySem.W.mg_none_of X G z_list, PySem.W.mg_none_of X G z_max, PySem.W.mg_none_of X G z_min, PySem.W.mg_none_of X G z_range, PySem.W.mg_none_of X G z_set, PySem.W.mg_none_of X G z_sorted, PySem.W.mg_none_of X G z_str, PySem.W.mg_none_of X G z_tuple, PySem.W.mg_of X G y_gcd⟩
  have H__law_draw : Here K mg "_law_draw" s__law_draw ["script", "source", "limit"] := here_of X G a1 l1 c1 k1 fun _ _ _ _ _ _ us hl => match us, hl with | [_, _, _], _ => rfl
  have H__law_source : Here K mg "_law_source" s__law_source ["script"] := here_of X G a2 l2 c2 k2 fun _ _ _ _ _ _ us hl => match us, hl with | [_], _ => rfl
  have H__law_gcd : Here K mg "_law_gcd" s__law_gcd ["a", "b"] := here_of X G a3 l3 c3 k3 fun _ _ _ _ _ _ us hl => match us, hl with | [_, _], _ => rfl
  have H__law_reduced : Here K mg "_law_reduced" s__law_reduced ["weights"] := here_of X G a4 l4 c4 k4 fun _ _ _ _ _ _ us hl => match us, hl with | [_], _ => rfl
  have H__law_name : Here K mg "_law_name" s__law_name ["script", "source", "used"] := here_of X G a5 l5 c5 k5 fun _ _ _ _ _ _ us hl => match us, hl with | [_, _, _], _ => rfl
  have H_reduced : Here K mg "reduced" s_reduced ["weights"] := here_of X G a6 l6 c6 k6 fun _ _ _ _ _ _ us hl => match us, hl with | [_], _ => rfl
  have H__slices_of : Here K mg "_slices_of" s__slices_of ["cells", "owner"] := here_of X G a7 l7 c7 k7 fun _ _ _ _ _ _ us hl => match us, hl with | [_, _], _ => rfl
  have H__law_slices : Here K mg "_law_slices" s__law_slices ["cube", "owner"] := here_of X G a8 l8 c8 k8 fun _ _ _ _ _ _ us hl => match us, hl with | [_, _], _ => rfl
  have H__law_order : Here K mg "_law_order" s__law_order ["script", "source", "count"] := here_of X G a9 l9 c9 k9 fun _ _ _ _ _ _ us hl => match us, hl with | [_, _, _], _ => rfl
  have H_sizes_of : Here K mg "sizes_of" s_sizes_of ["table"] := here_of X G a10 l10 c10 k10 fun _ _ _ _ _ _ us hl => match us, hl with | [_], _ => rfl
  have H_arranged : Here K mg "arranged" s_arranged ["table", "orders"] := here_of X G a11 l11 c11 k11 fun _ _ _ _ _ _ us hl => match us, hl with | [_, _], _ => rfl
  have H__law_arranged : Here K mg "_law_arranged" s__law_arranged ["table", "orders"] := here_of X G a12 l12 c12 k12 fun _ _ _ _ _ _ us hl => match us, hl with | [_, _], _ => rfl
  have H_all_orders : Here K mg "all_orders" s_all_orders ["count"] := here_of X G a13 l13 c13 k13 fun _ _ _ _ _ _ us hl => match us, hl with | [_], _ => rfl
  have H__sorted_axis : Here K mg "_sorted_axis" s__sorted_axis ["table", "owner", "orders"] := here_of X G a14 l14 c14 k14 fun _ _ _ _ _ _ us hl => match us, hl with | [_, _, _], _ => rfl
  have H_least_arrangement : Here K mg "least_arrangement" s_least_arrangement ["table"] := here_of X G a15 l15 c15 k15 fun _ _ _ _ _ _ us hl => match us, hl with | [_], _ => rfl
  have H__law_told : Here K mg "_law_told" s__law_told ["answer", "due"] := here_of X G a16 l16 c16 k16 fun _ _ _ _ _ _ us hl => match us, hl with | [_, _], _ => rfl
  have H_is_reduced : Here K mg "is_reduced" s_is_reduced ["table"] := here_of X G a17 l17 c17 k17 fun _ _ _ _ _ _ us hl => match us, hl with | [_], _ => rfl
  have H__law_orders : Here K mg "_law_orders" s__law_orders ["count"] := here_of X G a18 l18 c18 k18 fun _ _ _ _ _ _ us hl => match us, hl with | [_], _ => rfl
  have H__law_all_arrangements : Here K mg "_law_all_arrangements" s__law_all_arrangements ["table", "sizes"] := here_of X G a19 l19 c19 k19 fun _ _ _ _ _ _ us hl => match us, hl with | [_, _], _ => rfl
  have H__law_least : Here K mg "_law_least" s__law_least ["tables"] := here_of X G a20 l20 c20 k20 fun _ _ _ _ _ _ us hl => match us, hl with | [_], _ => rfl
  have H__law_are_orders : Here K mg "_law_are_orders" s__law_are_orders ["told", "sizes"] := here_of X G a21 l21 c21 k21 fun _ _ _ _ _ _ us hl => match us, hl with | [_, _], _ => rfl
  have H__law_least_told : Here K mg "_law_least_told" s__law_least_told ["table", "sizes", "least"] := here_of X G a22 l22 c22 k22 fun _ _ _ _ _ _ us hl => match us, hl with | [_, _, _], _ => rfl
  have H__law_is_reduced : Here K mg "_law_is_reduced" s__law_is_reduced ["table"] := here_of X G a23 l23 c23 k23 fun _ _ _ _ _ _ us hl => match us, hl with | [_], _ => rfl
  have H__law_reduced_told : Here K mg "_law_reduced_told" s__law_reduced_told ["table"] := here_of X G a24 l24 c24 k24 fun _ _ _ _ _ _ us hl => match us, hl with | [_], _ => rfl
  have H__law_spoilt_weights : Here K mg "_law_spoilt_weights" s__law_spoilt_weights ["script", "source", "weights"] := here_of X G a25 l25 c25 k25 fun _ _ _ _ _ _ us hl => match us, hl with | [_, _, _], _ => rfl
  have H__law_repeated : Here K mg "_law_repeated" s__law_repeated ["table"] := here_of X G a26 l26 c26 k26 fun _ _ _ _ _ _ us hl => match us, hl with | [_], _ => rfl
  have H__law_small_table : Here K mg "_law_small_table" s__law_small_table ["script", "source", "sizes", "outcomes"] := here_of X G a27 l27 c27 k27 fun _ _ _ _ _ _ us hl => match us, hl with | [_, _, _, _], _ => rfl
  refine ⟨PySem.W.fnOf "law" "law" (defArgs s_law) (defBody s_law) (defScope s_law) .none kV28 dc28 pm28 an28 cd28 ct28, fun s v => .of_eq rfl, fun base _ _ Su => ?_⟩
  have C__law_draw := ok__law_draw (P := P) (w := w) (base := base) H__law_draw T Su 
  have C__law_source := ok__law_source (P := P) (w := w) (base := base) H__law_source T Su 
  have C__law_gcd := ok__law_gcd (P := P) (w := w) (base := base) H__law_gcd T Su 
  have C__law_reduced := ok__law_reduced (P := P) (w := w) (base := base) H__law_reduced T Su C__law_gcd
  have C__law_name := ok__law_name (P := P) (w := w) (base := base) H__law_name T Su C__law_draw
  have C_reduced := ok_reduced (P := P) (w := w) (base := base) H_reduced T Su 
  have C__slices_of := ok__slices_of (P := P) (w := w) (base := base) H__slices_of T Su 
  have C__law_slices := ok__law_slices (P := P) (w := w) (base := base) H__law_slices T Su 
  have C__law_order := ok__law_order (P := P) (w := w) (base := base) H__law_order T Su C__law_draw
  have C_sizes_of := ok_sizes_of (P := P) (w := w) (base := base) H_sizes_of T Su 
  have C_arranged := ok_arranged (P := P) (w := w) (base := base) H_arranged T Su 
  have C__law_arranged := ok__law_arranged (P := P) (w := w) (base := base) H__law_arranged T Su 
  have C_all_orders := ok_all_orders (P := P) (w := w) (base := base) H_all_orders T Su 
  have C__sorted_axis := ok__sorted_axis (P := P) (w := w) (base := base) H__sorted_axis T Su C_sizes_of
  have C_least_arrangement := ok_least_arrangement (P := P) (w := w) (base := base) H_least_arrangement T Su C__sorted_axis C_all_orders C_arranged C_sizes_of
  have C__law_told := ok__law_told (P := P) (w := w) (base := base) H__law_told T Su  20
  have C_is_reduced := ok_is_reduced (P := P) (w := w) (base := base) H_is_reduced T Su C__slices_of C_reduced
  have C__law_orders := ok__law_orders (P := P) (w := w) (base := base) H__law_orders T Su 
  have C__law_all_arrangements := ok__law_all_arrangements (P := P) (w := w) (base := base) H__law_all_arrangements T Su C__law_arranged C__law_orders
  have C__law_least := ok__law_least (P := P) (w := w) (base := base) H__law_least T Su 
  have C__law_are_orders := ok__law_are_orders (P := P) (w := w) (base := base) H__law_are_orders T Su 
  have C__law_least_told := ok__law_least_told (P := P) (w := w) (base := base) H__law_least_told T Su C__law_are_orders C__law_arranged C__law_told C_least_arrangement
  have C__law_is_reduced := ok__law_is_reduced (P := P) (w := w) (base := base) H__law_is_reduced T Su C__law_reduced C__law_slices
  have C__law_reduced_told := ok__law_reduced_told (P := P) (w := w) (base := base) H__law_reduced_told T Su C__law_is_reduced C_is_reduced
  have C__law_spoilt_weights := ok__law_spoilt_weights (P := P) (w := w) (base := base) H__law_spoilt_weights T Su C__law_draw
  have C__law_repeated := ok__law_repeated (P := P) (w := w) (base := base) H__law_repeated T Su 
  have C__law_small_table := ok__law_small_table (P := P) (w := w) (base := base) H__law_small_table T Su C__law_draw C__law_reduced
  exact ok_law (fun_mk (st := s_law) l28 c28 k28) T Su C__law_all_arrangements C__law_draw C__law_least C__law_least_told C__law_name C__law_order C__law_reduced C__law_reduced_told C__law_repeated C__law_small_table C__law_source C__law_spoilt_weights
end PL
open PySem PySem.W PyProof.Rows
set_option maxHeartbeats 0 in
theorem PySem.Challenge.cw_toldotherwise_k12_least_of_all_arrangeme_holds : PySem.Challenge.rw_toldotherwise_k12_least_of_all_arrangeme.Holds := by
  w_on; o_law; k_head; (case hw => w_witness2)
  k_fill
  refine PL.walkP (l := PySem.Challenge.rw_toldotherwise_k12_least_of_all_arrangeme) (k := 56) (x := "script") rfl rfl ⟨rfl, by decide, by decide⟩ rfl rfl (fun w h Y => PySem.W.kIn_of Y) ?F
  case F =>
    intro w mg fa h KX G hmg
    refine' PL.all_mk KX G hmg ?a1 ?l1 ?c1 ?k1 ?a2 ?l2 ?c2 ?k2 ?a3 ?l3 ?c3 ?k3 ?a4 ?l4 ?c4 ?k4 ?a5 ?l5 ?c5 ?k5 ?a6 ?l6 ?c6 ?k6 ?a7 ?l7 ?c7 ?k7 ?a8 ?l8 ?c8 ?k8 ?a9 ?l9 ?c9 ?k9 ?a10 ?l10 ?c10 ?k10 ?a11 ?l11 ?c11 ?k11 ?a12 ?l12 ?c12 ?k12 ?a13 ?l13 ?c13 ?k13 ?a14 ?l14 ?c14 ?k14 ?a15 ?l15 ?c15 ?k15 ?a16 ?l16 ?c16 ?k16 ?a17 ?l17 ?c17 ?k17 ?a18 ?l18 ?c18 ?k18 ?a19 ?l19 ?c19 ?k19 ?a20 ?l20 ?c20 ?k20 ?a21 ?l21 ?c21 ?k21 ?a22 ?l22 ?c22 ?k22 ?a23 ?l23 ?c23 ?k23 ?a24 ?l24 ?c24 ?k24 ?a25 ?l25 ?c25 ?k25 ?a26 ?l26 ?c26 ?k26 ?a27 ?l27 ?c27 ?k27 ?a28 ?l28 ?c28 ?k28 ?z_abs ?z_bool ?z_dict ?z_int ?z_isinstance ?z_len ?z_list ?z_max ?z_min ?z_range ?z_set ?z_sorted ?z_str ?z_tuple ?y_gcd
    (case a1 => k_is); (case l1 => k_is); (case c1 => k_is); (case k1 => k_is); (case a2 => k_is); (case l2 => k_is); (case c2 => k_is); (case k2 => k_is); (case a3 => k_is); (case l3 => k_is); (case c3 => k_is); (case k3 => k_is); (case a4 => k_is); (case l4 => k_is); (case c4 => k_is); (case k4 => k_is); (case a5 => k_is); (case l5 => k_is); (case c5 => k_is); (case k5 => k_is); (case a6 => k_is); (case l6 => k_is); (case c6 => k_is); (case k6 => k_is); (case a7 => k_is); (case l7 => k_is); (case c7 => k_is); (case k7 => k_is); (case a8 => k_is); (case l8 => k_is); (case c8 => k_is); (case k8 => k_is); (case a9 => k_is); (case l9 => k_is); (case c9 => k_is); (case k9 => k_is); (case a10 => k_is); (case l10 => k_is); (case c10 => k_is); (case k10 => k_is); (case a11 => k_is); (case l11 => k_is); (case c11 => k_is); (case k11 => k_is); (case a12 => k_is); (case l12 => k_is); (case c12 => k_is); (case k12 => k_is); (case a13 => k_is); (case l13 => k_is); (case c13 => k_is); (case k13 => k_is); (case a14 => k_is); (case l14 => k_is); (case c14 => k_is); (case k14 => k_is); (case a15 => k_is); (case l15 => k_is); (case c15 => k_is); (case k15 => k_is); (case a16 => k_is); (case l16 => k_is); (case c16 => k_is); (case k16 => k_is); (case a17 => k_is); (case l17 => k_is); (case c17 => k_is); (case k17 => k_is); (case a18 => k_is); (case l18 => k_is); (case c18 => k_is); (case k18 => k_is); (case a19 => k_is); (case l19 => k_is); (case c19 => k_is); (case k19 => k_is); (case a20 => k_is); (case l20 => k_is); (case c20 => k_is); (case k20 => k_is); (case a21 => k_is); (case l21 => k_is); (case c21 => k_is); (case k21 => k_is); (case a22 => k_is); (case l22 => k_is); (case c22 => k_is); (case k22 => k_is); (case a23 => k_is); (case l23 => k_is); (case c23 => k_is); (case k23 => k_is); (case a24 => k_is); (case l24 => k_is); (case c24 => k_is); (case k24 => k_is); (case a25 => k_is); (case l25 => k_is); (case c25 => k_is); (case k25 => k_is); (case a26 => k_is); (case l26 => k_is); (case c26 => k_is); (case k26 => k_is); (case a27 => k_is); (case l27 => k_is); (case c27 => k_is); (case k27 => k_is); (case a28 => k_is); (case l28 => k_is); (case c28 => k_is); (case k28 => k_is); (case z_abs => k_is); (case z_bool => k_is); (case z_dict => k_is); (case z_int => k_is); (case z_isinstance => k_is); (case z_len => k_is); (case z_list => k_is); (case z_max => k_is); (case z_min => k_is); (case z_range => k_is); (case z_set => k_is); (case z_sorted => k_is); (case z_str => k_is); (case z_tuple => k_is); (case y_gcd => k_is)
