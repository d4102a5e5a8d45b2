import PyProof.Rows.All
import Wide.All
import OpenK.AllK
import Wide.FinOn
import HandS.ForMost
import HandS.Gcd
import HandS.Wide
import HandS.WideMore
import HandS.IsInst
import HandS.TupAny
import HandS.TupMul
import HandS.TupLe
import HandS.Conv
import HandS.Flow
import KE.KIndexOf
import HandS.Strs
import HandS.Text
import KE.DataEq
import HandS.Walk
import KE.KTupSum
import HandS.EndBits
import PyProof.Rows.SortShellAny
import KE.SortData
import KE.KDictZip
import HandS.Zip
import HandS.Property
import HandS.Star
import HandS.Style
import HandS.ExcIs
import HandS.RaiseFrom
import HandS.SuiteRaise
import HandS.WordsExc
import HandS.RaiseMore
import KE.GoesEnum
import HandS.TryOnly
import PyProof.Rows.MatchSeqLen
import PySem.Challenge.RW_toldotherwise_k51_game_in_place_of_outco
set_option Elab.async false
set_option linter.all false
set_option maxRecDepth 100000
set_option maxHeartbeats 2000000
/-! PL0: tuples laid with their object known (no dict of their own): the makers again, and the methods of a tuple. -/
namespace PL
open PySem PySem.Spec L2 PyProof.Rows

/-- a tuple whose object has no dict -/
def SqX (K : PySem.W.Frag) (H : Hp) (a : Addr) (vs : List V) : Prop :=
  (∃ ob, H a = some (.frz ob (.tup vs)) ∧ ob.dict = none) ∨
    ∃ (ob : Obj) (arr : Array Value) (c : Nat), K.lookup a = some ob ∧ ob.cls = .type "tuple" ∧ ob.dict = none ∧ ob.data = .seq arr c ∧ arr.size ≤ sizeLine ∧ Vals vs arr.toList
theorem SqX.t {K : PySem.W.Frag} {H : Hp} {a : Addr} {vs : List V} (h : SqX K H a vs) : SqT K H a vs := by
  rcases h with ⟨ob, e, _⟩ | ⟨ob, arr, c, e1, e2, _, e3⟩
  · exact .inl (.inr ⟨ob, e⟩)
  · exact .inr ⟨ob, arr, c, e1, e2, e3⟩
/-- the wish at a new tuple -/
abbrev NewT (H : Hp) (vs : List V) (Q : VK) : Prop := ∀ (p : Addr) (ob : Obj), H p = none → ob.dict = none → Q (.ref p) (upd H p (.frz ob (.tup vs)))
section
variable {X : Cx} {pins : List (Addr × Obj)} {σ : L2.St} {H : Hp} {s : Shared} {Q : VK}
theorem SqX.bare {a : Addr} {vs : List V} (I : Inv X pins σ H s) (h : SqX X.K H a vs) : s.TypeIs (.ref a) "tuple" ∧ ∀ b, Value.ref a = .ref b → ∃ ob, s.heap.get? b = some ob ∧ ob.dict = none := by
  refine ⟨?_, fun b eb => ?_⟩
  · obtain ⟨_, _, tup, _⟩ := I.tuple h.t
    exact tup.typeIs
  · cases eb
    rcases h with ⟨ob, e, hd⟩ | ⟨ob, _, _, e, _, hd, _⟩
    · exact ⟨ob, (I.hok a _ e).1, hd⟩
    · exact ⟨ob, I.kIn a ob e, hd⟩
theorem laid_tup {vs : List V} {us : List Value} (I : Inv X pins σ H s) (r : Vals vs us) (few : vs.length ≤ sizeLine) (q : NewT H vs Q) :
    EP X pins σ Q (.ref s.heap.objs.size) { s with heap := s.heap.push { cls := .type "tuple", data := .seq us.toArray } } :=
  have there := Heap.get?_push_size s.heap (o := { cls := .type "tuple", data := .seq us.toArray }) rfl
  ⟨.ref s.heap.objs.size, _, I.laid (t' := s.toks) (o := .frz { cls := .type "tuple", data := .seq us.toArray } (.tup vs)) (fun _ _ kept => Heap.get?_push_of_some _ kept) (Nat.le_refl _)
    ⟨there, few, us, r, IsTup.new _ _⟩, rfl, q _ _ (I.hok.fresh (Nat.le_refl _)) rfl⟩
end
section
variable {X : Cx} {es : List Expr} {e : Expr} {t : TA} {te : TE} {pos : Pos}
def xTup (t : TA) : TE := fun σ H Q => t σ H fun vs H1 => vs.length ≤ sizeLine ∧ NewT H1 vs Q
theorem pe_tupX {ctx} (h : PA X es t) : PE X (.Tuple es ctx pos) (xTup t) := by
  refine ⟨fun pins s σ H Q I want => ?_⟩
  refine wpAny_Tuple_spliced (thn (h.run pos pins s σ H _ I want) fun us s1 ⟨vs, H1, I1, rv, few, q⟩ => ?_)
  exact ⟨by rw [← rv.length]; exact few, laid_tup I1 rv few q⟩
theorem call_tupX : CallR X (.type "tuple") (fun as H Q => ∃ a vs, as = [.ref a] ∧ ((SqL X.K H a vs ∧ NewT H vs Q) ∨ (SqX X.K H a vs ∧ Q (.ref a) H))) := by
  intro pins s σ H as us Q I r want
  obtain ⟨a, vs, ea, want⟩ := want
  subst ea
  obtain ⟨u, eu, ru⟩ := vals1 r
  subst eu
  cases ru
  rcases want with ⟨there, q⟩ | ⟨there, q⟩
  · obtain ⟨its, rv, plain, few⟩ := I.list there
    have len := rv.length
    refine call_tuple_list plain.isList (fun h1 kp => ?_) (by simp only [List.size_toArray] <;> omega)
    exact laid_tup (I.kept (t' := s.toks) kp) rv few q
  · obtain ⟨its, rv, tup, few⟩ := I.tuple there.t
    exact call_tuple_same tup ⟨.ref a, H, I, rfl, q⟩
def xCat (K : PySem.W.Frag) : R2 := fun x y H Q => ∃ a b vs ws, x = .ref a ∧ y = .ref b ∧ SqX K H a vs ∧ SqX K H b ws ∧ vs.length + ws.length ≤ sizeLine ∧
  (vs = [] → Q (.ref b) H) ∧ (vs ≠ [] → ws = [] → Q (.ref a) H) ∧ (vs ≠ [] → ws ≠ [] → NewT H (vs ++ ws) Q)
theorem op_catX : OpR X (binaryOp .Add) (xCat X.K) := by
  intro pins s σ H x y v u Q I rx ry want
  obtain ⟨a, b, vs, ws, ex, ey, ha, hb, few, q0, q1, q2⟩ := want
  subst ex; subst ey
  cases rx
  cases ry
  obtain ⟨its, r1, p1, _⟩ := I.tuple ha.t
  obtain ⟨jts, r2, p2, _⟩ := I.tuple hb.t
  by_cases hv : vs = []
  · subst hv
    cases r1
    exact cat_tup0 p1 p2 ⟨.ref b, H, I, rfl, (q0 rfl : _)⟩
  · refine HT.cat_tup p1 p2 (fun z => hv (r1.nil_iff.mp z)) (fun z => ⟨.ref a, H, I, rfl, q1 hv (r2.nil_iff.mp z)⟩) (fun z => ?_) (by rw [← r1.length, ← r2.length]; exact few)
    exact laid_tup I (r1.append r2) (by rw [List.length_append]; exact few) (q2 hv fun w => z (r2.nil_iff.mpr w))
def xSl (K : PySem.W.Frag) : V → Option Int → Option Int → Hp → VK → Prop := fun x lo hi H Q => ∃ a vs, x = .ref a ∧ SqX K H a vs ∧
  (HT.sIx vs.length 0 lo = 0 ∧ HT.sIx vs.length vs.length hi = vs.length → Q (.ref a) H) ∧ (¬ (HT.sIx vs.length 0 lo = 0 ∧ HT.sIx vs.length vs.length hi = vs.length) → NewT H (cutV vs lo hi) Q)
theorem sl_tupX : SlR X (xSl X.K) := by
  intro pins s σ H x v vl vu lo hi sl Q I rx hs pl pu want
  obtain ⟨a, vs, ex, there, q1, q2⟩ := want
  subst ex
  cases rx
  obtain ⟨its, rv, tup, few⟩ := I.tuple there.t
  have len : its.toArray.size = vs.length := by rw [List.size_toArray]; exact rv.length.symm
  refine ⟨"tuple", _, PyProof.Rows.slot_tuple_getitem.lookup, tup.typeIs, ?_⟩
  by_cases whole : HT.sIx vs.length 0 lo = 0 ∧ HT.sIx vs.length vs.length hi = vs.length
  · exact getItem_tuple_whole tup hs pl pu (by rw [len]; exact whole) ⟨.ref a, H, I, rfl, q1 whole⟩
  · refine HT.getItem_tuple_cut tup hs pl pu (by rw [len]; exact whole) ?_ (by rw [len]; exact few)
    rw [len]
    exact laid_tup I ((rv.drop _).take _) (Nat.le_trans (cutV_length vs lo hi) few) (q2 whole)
def xTupRg (te : L2.St → Hp → (Int → Int → Hp → Prop) → Prop) : TE := fun σ H Q => te σ H fun a b H1 => RgOk a b ∧ NewT H1 (rgV a b) Q
theorem pe_tupRgX {p : Pos} (hc : X.calm = true) (hg : Gl X "tuple") (hm : X.mg "tuple" = none) {te : L2.St → Hp → (Int → Int → Hp → Prop) → Prop} (he : PRg X e te) (na : starEach [e] X.env = (false, eval e X.env) :: starEach [] X.env := by rfl) : PE X (.Call (.Name "tuple" p) [e] [] pos) (xTupRg te) := by
  refine ⟨fun pins s σ H Q I want => ?_⟩
  refine Call_ (ld_blt I hg hm boot_tuple (PyProof.Rows.callWith_type1 (args_cons (thn (he pins s σ H _ I want) fun x s1 ⟨rg, a, b, t1, t2, t3, H1, ex, isr, I1, ok, q⟩ => args_nil ?_) na) na))
  subst ex
  obtain ⟨lo1, lo2, hi1, hi2, many⟩ := ok
  refine call_tuple_range (n := (b - a).toNat) (I1.ok.hd hc) isr (small_one lo1 lo2 hi1 hi2) (rangeSize_nat a b) many fun h1 tk acc kept items => ?_
  have I2 : Inv X pins σ H1 { s1 with heap := h1, toks := tk } := I1.kept kept
  have fin := laid_tup (Q := Q) I2 (vals_rg items) (by rw [rgV_length, sizeLine_eq]; omega) q
  rw [Array.toArray_toList] at fin
  exact fin
def xRep (K : PySem.W.Frag) : R2 := fun x y H Q => ∃ a m vs, x = .ref a ∧ y = .int m ∧ SqX K H a vs ∧ vs ≠ [] ∧ 2 ≤ m ∧ m ≤ 1000 ∧ vs.length ≤ 1000 ∧ NewT H (List.replicate m.toNat vs).flatten Q
theorem op_repX : OpR X (binaryOp .Mult) (xRep X.K) := by
  intro pins s σ H x y v u Q I rx ry want
  obtain ⟨a, m, vs, ex, ey, there, some1, two, thou, few, q⟩ := want
  subst ex; subst ey
  cases rx
  obtain ⟨tk, eu⟩ := ry
  subst eu
  obtain ⟨its, rv, ⟨⟨cls, dd, data, sl⟩, at_a, hc, c, hd⟩, _⟩ := I.tuple there.t
  simp only at hc hd
  subst hc hd
  have len : its.length = vs.length := rv.length.symm
  have ne : its ≠ [] := fun z => some1 (rv.nil_iff.mp z)
  have full : its.toArray.isEmpty = false := by
    cases its with
    | nil => exact absurd rfl ne
    | cons _ _ => rfl
  have size : its.toArray.size = vs.length := by rw [List.size_toArray, len]
  have mill : ((its.toArray.size : Nat) : Int) * m ≤ 1000000 := by
    rw [size]
    have := Int.mul_le_mul_of_nonneg_right (show ((vs.length : Nat) : Int) ≤ 1000 by omega) (show 0 ≤ m by omega)
    omega
  have flat : (List.replicate m.toNat its).flatten.length ≤ sizeLine := by
    rw [PyProof.Rows.lm_len_rep_flat, len, sizeLine_eq]
    have := Nat.mul_le_mul (show m.toNat ≤ 1000 by omega) few
    omega
  have d0 : (decide (m < -(2 ^ 63)) || decide (m ≥ 2 ^ 63)) = false := by
    rw [Bool.or_eq_false_iff]; exact ⟨decide_eq_false (by omega), decide_eq_false (by omega)⟩
  have d1 : (its.toArray.isEmpty || m == 1) = false := by
    rw [full, Bool.false_or]; exact beq_eq_false_iff_ne.mpr (by omega)
  have d2 : (decide (m ≤ 0) || its.toArray.isEmpty) = false := by
    rw [full, Bool.or_false]; exact decide_eq_false (by omega)
  have d4 : Builtin.Tuple.tupleTooMany (((its.toArray.size : Nat) : Int) * m) = false := by
    unfold Builtin.Tuple.tupleTooMany; rw [sizeLine_eq]; exact decide_eq_false (by omega)
  have inner := tuple_mulW a its.toArray c dd sl m tk d0 d1 d2 (by omega) d4 (by rw [size_rep, List.size_toArray]; exact flat)
  have isT : s.TypeIs (.ref a) "tuple" := ⟨_, at_a, rfl⟩
  have run := call_meets (A := X.A) (prog := X.prog) (w := X.w) (E := X.xe) (s := s) F.slot_tuple_mul isT F.entry_tuple_mul (F.args_tuple_mul_2 _ _) inner
    (Q := EP X pins σ Q) ⟨at_a, by
      rw [size_rep]
      refine laid_tup I (rv.rep m.toNat) ?_ q
      rw [(rv.rep m.toNat).length]; exact flat⟩
  exact wpAny_binaryOp_repeat_ref (T := "tuple") (U := "int") (by decide) ⟨_, at_a, rfl⟩ (fun s' => typeIs_int s' m tk) noFill_tuple_mul F.fills_int_mul F.slot_int_rmul repeat_tuple F.slot_int_index.lookup
    (call_meets F.slot_int_rmul (typeIs_int s m tk) F.entry_int_rmul (F.args_int_rmul_2 _ _) (int_rmul_tuple m tk a its.toArray c dd sl) ⟨at_a, rfl, ⟨_, at_a, rfl⟩, run⟩)
end
namespace PLr
theorem tuple_mul_one (l : Addr) (items : Array Value) (n : Nat) (dd : Option Addr) (sl : Array (Option Value)) (u : Tok) :
    Meets (Builtin.«tuple.__mul__» ⟨[.ref l, .int 1 u], []⟩) (fun _ R s => s.heap.get? l = some { cls := .type "tuple", dict := dd, data := .seq items n, slots := sl } ∧ R (.ok (.ret (.ref l))) s) :=
  .of_wp fun _ _ _ _ st ⟨hl, fin⟩ => by
    obtain ⟨hp, gens, drawn, tk, os⟩ := st
    have ix := AutoSeq1.idx_int; wp_walk using wpAny_loadPart' hl
    repeat (first
      | (refine wpAny_ite_false (decide_eq_false (by decide)) ?_; wp_walk using wpAny_loadPart' hl)
      | (refine wpAny_ite_true (by simp) ?_; wp_walk using wpAny_loadPart' hl))
    exact ⟨_, rfl, fin⟩
end PLr
section
variable {X : Cx}
/-- t * 1 is t -/
def xRep1 (K : PySem.W.Frag) : R2 := fun x y H Q => ∃ a vs, x = .ref a ∧ y = .int 1 ∧ SqX K H a vs ∧ Q (.ref a) H
theorem op_rep1 : OpR X (binaryOp .Mult) (xRep1 X.K) := by
  intro pins s σ H x y v u Q I rx ry want
  obtain ⟨a, vs, ex, ey, there, q⟩ := want
  subst ex; subst ey
  cases rx
  obtain ⟨tk, eu⟩ := ry
  subst eu
  obtain ⟨its, rv, ⟨⟨cls, dd, data, sl⟩, at_a, hc, c, hd⟩, _⟩ := I.tuple there.t
  simp only at hc hd
  subst hc hd
  have isT : s.TypeIs (.ref a) "tuple" := ⟨_, at_a, rfl⟩
  have run := call_meets (A := X.A) (prog := X.prog) (w := X.w) (E := X.xe) (s := s) F.slot_tuple_mul isT F.entry_tuple_mul (F.args_tuple_mul_2 _ _) (PLr.tuple_mul_one a its.toArray c dd sl tk)
    (Q := EP X pins σ Q) ⟨at_a, .ref a, H, I, rfl, q⟩
  exact wpAny_binaryOp_repeat_ref (T := "tuple") (U := "int") (by decide) ⟨_, at_a, rfl⟩ (fun s' => typeIs_int s' 1 tk) noFill_tuple_mul F.fills_int_mul F.slot_int_rmul repeat_tuple F.slot_int_index.lookup
    (call_meets F.slot_int_rmul (typeIs_int s 1 tk) F.entry_int_rmul (F.args_int_rmul_2 _ _) (int_rmul_tuple 1 tk a its.toArray c dd sl) ⟨at_a, rfl, ⟨_, at_a, rfl⟩, run⟩)
end
/-! a tuple's methods -/
section
variable {X : Cx} {o e : Expr} {es : List Expr} {to : TE} {t : TA} {name : Str} {apos cpos : Pos} {id : String} {r : V → List V → Hp → VK → Prop}
def xBM (K : PySem.W.Frag) (r : V → List V → Hp → VK → Prop) (to : TE) (t : TA) : TE := fun σ H Q => to σ H fun x H1 => (∃ a vs, x = .ref a ∧ SqX K H1 a vs) ∧ t σ H1 fun as H2 => r x as H2 Q
theorem pe_bmX (slot : Slot "tuple" name id) (hty : typeOf (.builtin id) = pure (.type "method_descriptor")) (hm : MtR X id r) (ho : PE X o to) (ha : PA X (e :: es) t)
    (base0 : attributeBase o name X.env (eval o X.env) = eval o X.env := by rfl)
    (few0 : (((backTo cpos (starEach (e :: es) X.env)).all (fun x => !x.1) && (backToKw cpos (keywordEach [] X.env)).all (fun x => x.1.isSome)) && decide ((e :: es).length + ([] : List Keyword).length + (if ([] : List Keyword).isEmpty then 0 else 1) < 30)) = true := by rfl)
    (line0 : (apos.endLine == cpos.line) = true := by rfl) (star0 : starEach (e :: es) X.env = (false, eval e X.env) :: starEach es X.env := by rfl) (plain0 : (backTo cpos (starEach es X.env)).any (·.1) = false := by rfl) :
    PE X (.Call (.Attribute o name apos) (e :: es) [] cpos) (xBM X.K r to t) := by
  refine ⟨fun pins s σ H Q I want => ?_⟩
  refine wpAny_Call_method_late base0 few0 line0 rfl (thn (ho.run pins s σ H _ I want) fun v s1 ⟨x, H1, I1, r1, ⟨a, vs, ex, there⟩, q1⟩ => ?_)
  subst ex
  cases r1
  obtain ⟨isT, bare⟩ := there.bare I1
  refine ⟨"tuple", id, PySem.F.plainAttrs_tuple, slot, hty, isT, bare, ?_⟩
  have args := ha.run cpos pins s1 σ H1 _ I1 q1
  rw [star0] at args ⊢
  refine Calls.callWith_builtin (by show (false || (backTo cpos (starEach es X.env)).any (·.1)) = false; rw [plain0]; rfl) (Calls.evalArgs_plain ?_)
  exact thn args fun us s2 ⟨as, H2, I2, r2, q2⟩ => hm pins s2 σ H2 (.ref a) as _ us Q I2 rfl r2 q2
end
/-- t.index(x): of ints, of texts -/
def rIdxT (K : PySem.W.Frag) : V → List V → Hp → VK → Prop := fun x as H Q => ∃ a, x = .ref a ∧
  ((∃ (ns : List Int) (k : Int), as = [.int k] ∧ SqT K H a (ns.map V.int) ∧ k ∈ ns ∧ Q (.int (ns.idxOf k : Nat)) H) ∨
   (∃ (ns : List Str) (k : Str), as = [.str k] ∧ SqT K H a (ns.map V.str) ∧ k ∈ ns ∧ Q (.int (ns.idxOf k : Nat)) H))
theorem mt_idxT {X : Cx} : MtR X "tuple.index" (rIdxT X.K) := by
  intro pins s σ H x as v us Q I rx ra want
  obtain ⟨a, ex, want⟩ := want
  subst ex
  cases rx
  rcases want with ⟨ns, k, ea, there, hk, q⟩ | ⟨ns, k, ea, there, hk, q⟩
  · subst ea
    obtain ⟨u, eu, t, eu2⟩ := vals1 ra
    subst eu; subst eu2
    obtain ⟨its, rv, tup, _⟩ := I.tuple there
    exact PySem.SeqAt.tuple_index_ints tup (intsAre_of rv) hk ⟨.int _, H, I.tok _, ⟨_, rfl⟩, q⟩
  · subst ea
    obtain ⟨u, eu, t, eu2⟩ := vals1 ra
    subst eu; subst eu2
    obtain ⟨its, rv, tup, _⟩ := I.tuple there
    exact PySem.SeqAt.tuple_index_strs tup (strsAre_of rv) hk ⟨.int _, H, I.tok _, ⟨_, rfl⟩, q⟩
end PL

set_option Elab.async false
set_option linter.all false
set_option maxRecDepth 100000
set_option maxHeartbeats 2000000
/-! PL1: a data layer over the hand layer: tuples are plain values, lists and dicts stand at addresses, what is not needed may be dropped. -/
namespace PL
open PySem L2

abbrev Kf := PySem.W.Frag
inductive PV where
  | non | bl (b : Bool) | int (i : Int) | str (x : Str) | tup (l : List PV) | ref (a : Addr) | ty (n : String)

mutual
inductive Rep (K : Kf) (H : Hp) : PV → V → Prop
  | non : Rep K H .non .non
  | bl (b) : Rep K H (.bl b) (.bl b)
  | int (i) : Rep K H (.int i) (.int i)
  | str (x) : Rep K H (.str x) (.str x)
  | ref (a) : Rep K H (.ref a) (.ref a)
  | ty (n) : Rep K H (.ty n) (.ty n)
  | tup {l a vs} : SqX K H a vs → Reps K H l vs → Rep K H (.tup l) (.ref a)
inductive Reps (K : Kf) (H : Hp) : List PV → List V → Prop
  | nil : Reps K H [] []
  | cons {p v ps vs} : Rep K H p v → Reps K H ps vs → Reps K H (p :: ps) (v :: vs)
end

def Tk (K : Kf) (H H' : Hp) : Prop := ∀ a xs, SqX K H a xs → SqX K H' a xs
theorem Tk.refl (K : Kf) (H : Hp) : Tk K H H := fun _ _ h => h
theorem Tk.trans {K : Kf} {H H1 H2 : Hp} (a : Tk K H H1) (b : Tk K H1 H2) : Tk K H H2 := fun x xs h => b x xs (a x xs h)
theorem Tk.upd {K : Kf} {H : Hp} {p : Addr} {o : HO} (h : ∀ xs, ¬ Rd H p (.tup xs)) : Tk K H (upd H p o) := fun a xs e => by
  rcases e with ⟨ob, e, d⟩ | e
  · have ne : a ≠ p := fun q => h xs (q ▸ .inr ⟨ob, e⟩)
    exact .inl ⟨ob, by rw [upd_ne ne]; exact e, d⟩
  · exact .inr e
theorem Tk.new {K : Kf} {H : Hp} {p : Addr} {o : HO} (h : H p = none) : Tk K H (L2.upd H p o) := .upd fun xs e => by
  rcases e with e | ⟨u, e⟩ <;> rw [h] at e <;> cases e

mutual
theorem Rep.mono {K : Kf} {H H' : Hp} (t : Tk K H H') : ∀ {p v}, Rep K H p v → Rep K H' p v
  | _, _, .non => .non
  | _, _, .bl b => .bl b
  | _, _, .int b => .int b
  | _, _, .str b => .str b
  | _, _, .ref b => .ref b
  | _, _, .ty b => .ty b
  | _, _, .tup h r => .tup (t _ _ h) (Reps.mono t r)
theorem Reps.mono {K : Kf} {H H' : Hp} (t : Tk K H H') : ∀ {p v}, Reps K H p v → Reps K H' p v
  | _, _, .nil => .nil
  | _, _, .cons h r => .cons (Rep.mono t h) (Reps.mono t r)
end

section
variable {K : Kf} {H : Hp}
theorem Reps.length : ∀ {ps vs}, Reps K H ps vs → ps.length = vs.length
  | _, _, .nil => rfl
  | _, _, .cons _ t => congrArg (· + 1) (Reps.length t)
theorem Reps.get : ∀ {ps vs} {i : Nat} {p}, Reps K H ps vs → ps[i]? = some p → ∃ v, vs[i]? = some v ∧ Rep K H p v
  | _, _, _, _, .nil, e => by simp at e
  | _, _, 0, _, .cons r _, e => by simp at e; subst e; exact ⟨_, rfl, r⟩
  | _, _, i + 1, p, .cons _ t, e => by
    obtain ⟨u, h1, h2⟩ := Reps.get (i := i) (p := p) t (by simpa using e)
    exact ⟨u, by simpa using h1, h2⟩
theorem Reps.append : ∀ {ps vs qs ws}, Reps K H ps vs → Reps K H qs ws → Reps K H (ps ++ qs) (vs ++ ws)
  | _, _, _, _, .nil, s => s
  | _, _, _, _, .cons r t, s => .cons r (Reps.append t s)
theorem Reps.set {p v} (r : Rep K H p v) : ∀ {ps vs} (i : Nat), Reps K H ps vs → Reps K H (ps.set i p) (vs.set i v)
  | _, _, _, .nil => .nil
  | _, _, 0, .cons _ t => .cons r t
  | _, _, i + 1, .cons q t => .cons q (Reps.set r i t)
theorem Reps.take : ∀ {ps vs} (n : Nat), Reps K H ps vs → Reps K H (ps.take n) (vs.take n)
  | _, _, 0, _ => .nil
  | _, _, _ + 1, .nil => .nil
  | _, _, n + 1, .cons r t => .cons r (Reps.take n t)
theorem Reps.drop : ∀ {ps vs} (n : Nat), Reps K H ps vs → Reps K H (ps.drop n) (vs.drop n)
  | _, _, 0, r => r
  | _, _, _ + 1, .nil => .nil
  | _, _, n + 1, .cons _ t => Reps.drop n t
theorem Reps.ints : ∀ {ns : List Int} {vs}, Reps K H (ns.map PV.int) vs → vs = ns.map V.int
  | [], _, .nil => rfl
  | _ :: _, _, .cons (.int _) t => by rw [Reps.ints t]; rfl
theorem Reps.of_ints : ∀ {ns : List Int}, Reps K H (ns.map PV.int) (ns.map V.int)
  | [] => .nil
  | _ :: _ => .cons (.int _) Reps.of_ints
theorem Reps.strs : ∀ {ns : List Str} {vs}, Reps K H (ns.map PV.str) vs → vs = ns.map V.str
  | [], _, .nil => rfl
  | _ :: _, _, .cons (.str _) t => by rw [Reps.strs t]; rfl
theorem Reps.of_strs : ∀ {ns : List Str}, Reps K H (ns.map PV.str) (ns.map V.str)
  | [] => .nil
  | _ :: _ => .cons (.str _) Reps.of_strs
theorem Reps.snoc {ps vs p v} (h : Reps K H ps vs) (r : Rep K H p v) : Reps K H (ps ++ [p]) (vs ++ [v]) := h.append (.cons r .nil)
theorem Reps.nil_iff {ps vs} (h : Reps K H ps vs) : ps = [] ↔ vs = [] := by
  cases h with
  | nil => simp
  | cons a b => simp
end

/-! ### what stands at an address -/
inductive MO where
  | lst (l : List PV)
  | ro (l : List PV)
  | dK (kvs : List (Key × PV))
  | xd (fs : List (Str × PV))
  | rK (o : Obj) (vs : List (Key × V)) (kvs : List (Key × PV))
  | ins (C dx : Addr) (fs : List (Str × PV))
abbrev PHp := Addr → Option MO
def updM (M : PHp) (a : Addr) (o : MO) : PHp := fun b => if b = a then some o else M b
theorem updM_same {M : PHp} {a : Addr} {o : MO} : updM M a o a = some o := by unfold updM; rw [if_pos rfl]
theorem updM_ne {M : PHp} {a b : Addr} {o : MO} (h : b ≠ a) : updM M a o b = M b := by unfold updM; rw [if_neg h]
theorem updM_updM {M : PHp} {a : Addr} {o u : MO} : updM (updM M a o) a u = updM M a u := by
  funext b; unfold updM; split <;> rfl
theorem updM_self {M : PHp} {a : Addr} {o : MO} (h : M a = some o) : updM M a o = M := by
  funext b; unfold updM; split
  · next e => rw [e, h]
  · rfl
theorem updM_comm {M : PHp} {a b : Addr} {o u : MO} (h : a ≠ b) : updM (updM M a o) b u = updM (updM M b u) a o := by
  funext c; unfold updM
  by_cases h1 : c = b
  · subst h1; rw [if_pos rfl, if_neg (Ne.symm h), if_pos rfl]
  · rw [if_neg h1, if_neg h1]
theorem neM {M : PHp} {a b : Addr} {o : MO} (h : M a = some o) (h' : M b = none) : a ≠ b := by
  intro e; subst e; rw [h] at h'; cases h'
theorem neM' {M : PHp} {a b : Addr} {o : MO} (h : M a = some o) (h' : M b = none) : b ≠ a := (neM h h').symm
def Sub (M M' : PHp) : Prop := ∀ a o, M a = some o → M' a = some o
theorem Sub.refl (M : PHp) : Sub M M := fun _ _ h => h
theorem Sub.trans {M M1 M2 : PHp} (a : Sub M M1) (b : Sub M1 M2) : Sub M M2 := fun x o h => b x o (a x o h)
theorem Sub.new {M : PHp} {p : Addr} {o : MO} (h : M p = none) : Sub M (updM M p o) := fun a u e => by rw [updM_ne (neM e h)]; exact e
theorem Sub.upd {M M' : PHp} {p : Addr} {o : MO} (h : Sub M M') : Sub (updM M p o) (updM M' p o) := fun a u e => by
  unfold updM at e ⊢; split
  · next q => rw [if_pos q] at e; exact e
  · next q => rw [if_neg q] at e; exact h a u e

inductive RepKV (K : Kf) (H : Hp) : List (Key × PV) → List (Key × V) → Prop
  | nil : RepKV K H [] []
  | cons {k p v ps vs} : Rep K H p v → RepKV K H ps vs → RepKV K H ((k, p) :: ps) ((k, v) :: vs)
theorem RepKV.mono {K : Kf} {H H' : Hp} (t : Tk K H H') {ps vs} (h : RepKV K H ps vs) : RepKV K H' ps vs := by
  induction h with
  | nil => exact .nil
  | cons a _ ih => exact .cons (a.mono t) ih
inductive RepXD (K : Kf) (H : Hp) : List (Str × PV) → List (Str × V) → Prop
  | nil : RepXD K H [] []
  | cons {k p v ps vs} : Rep K H p v → RepXD K H ps vs → RepXD K H ((k, p) :: ps) ((k, v) :: vs)
theorem RepXD.mono {K : Kf} {H H' : Hp} (t : Tk K H H') {ps vs} (h : RepXD K H ps vs) : RepXD K H' ps vs := by
  induction h with
  | nil => exact .nil
  | cons a _ ih => exact .cons (a.mono t) ih

def OkM (K : Kf) (H : Hp) (a : Addr) : MO → Prop
  | .lst l => ∃ vs, H a = some (.lst vs) ∧ Reps K H l vs
  | .ro l => ∃ vs, Rd H a (.lst vs) ∧ Reps K H l vs
  | .dK kvs => ∃ vs, H a = some (.dK vs) ∧ RepKV K H kvs vs
  | .xd fs => ∃ vs, H a = some (.xd vs) ∧ RepXD K H fs vs
  | .rK o vs kvs => H a = some (.frz o (.dK vs)) ∧ RepKV K H kvs vs
  | .ins C dx fs => ∃ vs, H a = some (.ins C dx vs) ∧ RepXD K H fs vs
def RelM (K : Kf) (H : Hp) (M : PHp) : Prop := ∀ a o, M a = some o → OkM K H a o
theorem RelM.sub {K : Kf} {H : Hp} {M M' : PHp} (h : RelM K H M') (s : Sub M M') : RelM K H M := fun a o e => h a o (s a o e)
/-- what the object at b's description leans on -/
theorem OkM.stay {K : Kf} {H H' : Hp} {a : Addr} {o : MO} (h : OkM K H a o) (t : Tk K H H') (k : H' a = H a) : OkM K H' a o := by
  cases o with
  | lst l => obtain ⟨vs, e, r⟩ := h; exact ⟨vs, k.trans e, r.mono t⟩
  | ro l =>
    obtain ⟨vs, e, r⟩ := h
    refine ⟨vs, ?_, r.mono t⟩
    rcases e with e | ⟨u, e⟩
    · exact .inl (k.trans e)
    · exact .inr ⟨u, k.trans e⟩
  | dK l => obtain ⟨vs, e, r⟩ := h; exact ⟨vs, k.trans e, r.mono t⟩
  | xd l => obtain ⟨vs, e, r⟩ := h; exact ⟨vs, k.trans e, r.mono t⟩
  | rK o vs l => obtain ⟨e, r⟩ := h; exact ⟨k.trans e, r.mono t⟩
  | ins C dx l => obtain ⟨vs, e, r⟩ := h; exact ⟨vs, k.trans e, r.mono t⟩
theorem OkM.there {K : Kf} {H : Hp} {a : Addr} {o : MO} (h : OkM K H a o) : H a ≠ none := by
  cases o with
  | lst l => obtain ⟨vs, e, r⟩ := h; rw [e]; simp
  | ro l =>
    obtain ⟨vs, e, r⟩ := h
    rcases e with e | ⟨u, e⟩ <;> rw [e] <;> simp
  | dK l => obtain ⟨vs, e, r⟩ := h; rw [e]; simp
  | xd l => obtain ⟨vs, e, r⟩ := h; rw [e]; simp
  | rK o vs l => obtain ⟨e, r⟩ := h; rw [e]; simp
  | ins C dx l => obtain ⟨vs, e, r⟩ := h; rw [e]; simp
theorem RelM.fresh {K : Kf} {H : Hp} {M : PHp} {p : Addr} (h : RelM K H M) (hp : H p = none) : M p = none := by
  cases q : M p with
  | none => rfl
  | some o => exact absurd hp (h p o q).there
/-- a new object that is not of M -/
theorem RelM.new {K : Kf} {H : Hp} {M : PHp} {p : Addr} {o : HO} (h : RelM K H M) (hp : H p = none) : RelM K (L2.upd H p o) M := fun a u e =>
  (h a u e).stay (.new hp) (upd_ne fun q => (h a u e).there (q ▸ hp))
/-- fresh in the heap (a module's own object aside) -/
theorem RelM.put {K : Kf} {H : Hp} {M : PHp} {p : Addr} {o : HO} {m : MO} (h : RelM K H M) (t : Tk K H (L2.upd H p o)) (hm : OkM K (L2.upd H p o) p m) : RelM K (L2.upd H p o) (updM M p m) := fun a u e => by
  by_cases hap : a = p
  · subst hap; rw [updM_same] at e; cases e; exact hm
  · rw [updM_ne hap] at e
    exact (h a u e).stay t (upd_ne hap)
theorem no_tup {H : Hp} {p : Addr} {o : HO} (h : H p = some o) (h1 : ∀ xs, o ≠ .tup xs) (h2 : ∀ u v, o ≠ .frz u v) : ∀ xs, ¬ Rd H p (.tup xs) := fun xs e => by
  rcases e with e | ⟨u, e⟩
  · rw [h] at e; exact h1 xs (Option.some.inj e)
  · rw [h] at e; exact h2 u _ (Option.some.inj e)
theorem Tk.lst {K : Kf} {H : Hp} {p : Addr} {vs : List V} {o : HO} (h : H p = some (.lst vs)) : Tk K H (L2.upd H p o) := .upd (no_tup h (fun _ z => nomatch z) (fun _ _ z => nomatch z))
theorem Tk.dK {K : Kf} {H : Hp} {p : Addr} {vs : List (Key × V)} {o : HO} (h : H p = some (.dK vs)) : Tk K H (L2.upd H p o) := .upd (no_tup h (fun _ z => nomatch z) (fun _ _ z => nomatch z))

/-- a list of the module's own -/
def KL (K : Kf) (a : Addr) (l : List PV) : Prop := ∃ vs, (∃ (o : Obj) (its : Array Value) (n : Nat), K.lookup a = some o ∧ o.cls = .type "list" ∧ o.dict = none ∧ o.data = .seq its n ∧ its.size ≤ sizeLine ∧ Vals vs its.toList) ∧ ∀ H, Reps K H l vs
/-- a list that is read -/
def rdL (K : Kf) (M : PHp) (a : Addr) (l : List PV) : Prop := M a = some (.lst l) ∨ M a = some (.ro l) ∨ KL K a l
theorem rdL.to {K : Kf} {H : Hp} {M : PHp} {a : Addr} {l : List PV} (h : rdL K M a l) (m : RelM K H M) : ∃ vs, SqL K H a vs ∧ Reps K H l vs := by
  rcases h with h | h | ⟨vs, h, r⟩
  · obtain ⟨vs, e, r⟩ := m a _ h
    exact ⟨vs, .of e, r⟩
  · obtain ⟨vs, e, r⟩ := m a _ h
    exact ⟨vs, .inl e, r⟩
  · exact ⟨vs, .inr h, r H⟩

/-! ### slots -/
abbrev PSt := List (Option PV)
abbrev PVK := PV → PHp → Prop
abbrev PXK := Value → Option Addr → PHp → Prop
inductive RelS (K : Kf) (H : Hp) : PSt → L2.St → Prop
  | nil : RelS K H [] []
  | no {ps vs v} : RelS K H ps vs → RelS K H (none :: ps) (v :: vs)
  | yes {p v ps vs} : Rep K H p v → RelS K H ps vs → RelS K H (some p :: ps) (some v :: vs)
theorem RelS.mono {K : Kf} {H H' : Hp} (t : Tk K H H') {ps vs} (h : RelS K H ps vs) : RelS K H' ps vs := by
  induction h with
  | nil => exact .nil
  | no _ ih => exact .no ih
  | yes a _ ih => exact .yes (a.mono t) ih
theorem RelS.get {K : Kf} {H : Hp} : ∀ {σ τ} {i : Nat} {p}, RelS K H σ τ → σ[i]? = some (some p) → ∃ v, τ[i]? = some (some v) ∧ Rep K H p v
  | _, _, _, _, .nil, e => by simp at e
  | _, _, 0, _, .no _, e => by simp at e
  | _, _, 0, _, .yes r _, e => by simp at e; subst e; exact ⟨_, rfl, r⟩
  | _, _, i + 1, p, .no t, e => by
    obtain ⟨u, h1, h2⟩ := RelS.get (i := i) (p := p) t (by simpa using e)
    exact ⟨u, by simpa using h1, h2⟩
  | _, _, i + 1, p, .yes _ t, e => by
    obtain ⟨u, h1, h2⟩ := RelS.get (i := i) (p := p) t (by simpa using e)
    exact ⟨u, by simpa using h1, h2⟩
theorem RelS.set {K : Kf} {H : Hp} {p v} (r : Rep K H p v) : ∀ {σ τ} (i : Nat), RelS K H σ τ → RelS K H (σ.set i (some p)) (τ.set i (some v))
  | _, _, _, .nil => .nil
  | _, _, 0, .no t => .yes r t
  | _, _, 0, .yes _ t => .yes r t
  | _, _, i + 1, .no t => .no (RelS.set r i t)
  | _, _, i + 1, .yes q t => .yes q (RelS.set r i t)
/-- forgotten slots -/
inductive SubS : PSt → PSt → Prop
  | nil : SubS [] []
  | none {x a b} : SubS a b → SubS (Option.none :: a) (x :: b)
  | same {x a b} : SubS a b → SubS (x :: a) (x :: b)
theorem SubS.refl : ∀ σ : PSt, SubS σ σ
  | [] => .nil
  | _ :: r => .same (SubS.refl r)
theorem RelS.sub {K : Kf} {H : Hp} {σ0 σ : PSt} {τ : L2.St} (h : RelS K H σ τ) (s : SubS σ0 σ) : RelS K H σ0 τ := by
  induction s generalizing τ with
  | nil => exact h
  | none _ ih =>
    cases h with
    | no t => exact .no (ih t)
    | yes r t => exact .no (ih t)
  | same _ ih =>
    cases h with
    | no t => exact .no (ih t)
    | yes r t => exact .yes r (ih t)
theorem RelS.length {K : Kf} {H : Hp} {σ : PSt} {τ : L2.St} (h : RelS K H σ τ) : σ.length = τ.length := by
  induction h with
  | nil => rfl
  | no _ ih => exact congrArg (· + 1) ih
  | yes _ _ ih => exact congrArg (· + 1) ih

/-! ### readings -/
abbrev TEp := PSt → PHp → PVK → Prop
abbrev TTp := PSt → PHp → (Bool → PHp → Prop) → Prop
abbrev TAp := PSt → PHp → (List PV → PHp → Prop) → Prop
structure PEnds where
  nx : PSt → PHp → Prop
  rt : PVK
  bk : PSt → PHp → Prop := fun _ _ => False
  ct : PSt → PHp → Prop := fun _ _ => False
abbrev TSp := PEnds → PSt → PHp → Prop
section
variable (K : Kf) (H0 : Hp)
def concE (u : TEp) : TE := fun σ H Q => ∃ σp M Qp, Tk K H0 H ∧ RelS K H σp σ ∧ RelM K H M ∧ u σp M Qp ∧ ∀ v H' p M', Tk K H H' → RelM K H' M' → Rep K H' p v → Qp p M' → Q v H'
def concT (u : TTp) : TT := fun σ H Q => ∃ σp M Qp, Tk K H0 H ∧ RelS K H σp σ ∧ RelM K H M ∧ u σp M Qp ∧ ∀ b H' M', Tk K H H' → RelM K H' M' → Qp b M' → Q b H'
def concA (u : TAp) : TA := fun σ H Q => ∃ σp M Qp, Tk K H0 H ∧ RelS K H σp σ ∧ RelM K H M ∧ u σp M Qp ∧ ∀ vs H' ps M', Tk K H H' → RelM K H' M' → Reps K H' ps vs → Qp ps M' → Q vs H'
structure EndsRel (H : Hp) (D : Ends) (Dp : PEnds) : Prop where
  nx : ∀ σ H' σp M', Tk K H H' → RelS K H' σp σ → RelM K H' M' → Dp.nx σp M' → D.nx σ H'
  rt : ∀ v H' p M', Tk K H H' → RelM K H' M' → Rep K H' p v → Dp.rt p M' → D.rt v H'
  bk : ∀ σ H' σp M', Tk K H H' → RelS K H' σp σ → RelM K H' M' → Dp.bk σp M' → D.bk σ H'
  ct : ∀ σ H' σp M', Tk K H H' → RelS K H' σp σ → RelM K H' M' → Dp.ct σp M' → D.ct σ H'
def concS (u : TSp) : TS := fun D σ H => ∃ σp M Dp, Tk K H0 H ∧ RelS K H σp σ ∧ RelM K H M ∧ u Dp σp M ∧ EndsRel K H D Dp
end
theorem EndsRel.mono {K : Kf} {H H' : Hp} {D : Ends} {Dp : PEnds} (h : EndsRel K H D Dp) (t : Tk K H H') : EndsRel K H' D Dp :=
  ⟨fun a b c d e => h.nx a b c d (t.trans e), fun a b c d e => h.rt a b c d (t.trans e), fun a b c d e => h.bk a b c d (t.trans e), fun a b c d e => h.ct a b c d (t.trans e)⟩
abbrev PEp (X : Cx) (H0 : Hp) (e : Expr) (u : TEp) : Prop := PE X e (concE X.K H0 u)
abbrev PTp (X : Cx) (H0 : Hp) (e : Expr) (u : TTp) : Prop := PT X e (concT X.K H0 u)
abbrev PWp (X : Cx) (H0 : Hp) (e : Expr) (u : TTp) : Prop := PW X e (concT X.K H0 u)
abbrev PAp (X : Cx) (H0 : Hp) (es : List Expr) (u : TAp) : Prop := PA X es (concA X.K H0 u)
abbrev PSp' (X : Cx) (H0 : Hp) (s : Stmt) (u : TSp) : Prop := PS X s (concS X.K H0 u)
abbrev PSsp (X : Cx) (H0 : Hp) (s : List Stmt) (u : TSp) : Prop := PSs X s (concS X.K H0 u)
/-- a weaker reading -/
theorem peW {X : Cx} {e : Expr} {t t' : TE} (h : PE X e t) (w : ∀ σ H Q, t' σ H Q → t σ H Q) : PE X e t' := ⟨fun pins s σ H Q I q => h.run pins s σ H Q I (w _ _ _ q)⟩
theorem ptW {X : Cx} {e : Expr} {t t' : TT} (h : PT X e t) (w : ∀ σ H Q, t' σ H Q → t σ H Q) : PT X e t' := ⟨fun pins s σ H Q I q => h.run pins s σ H Q I (w _ _ _ q)⟩
theorem pwW {X : Cx} {e : Expr} {t t' : TT} (h : PW X e t) (w : ∀ σ H Q, t' σ H Q → t σ H Q) : PW X e t' := ⟨fun wh pins s σ H Q I q => h.run wh pins s σ H Q I (w _ _ _ q)⟩
theorem paW {X : Cx} {e : List Expr} {t t' : TA} (h : PA X e t) (w : ∀ σ H Q, t' σ H Q → t σ H Q) : PA X e t' := ⟨fun pos pins s σ H Q I q => h.run pos pins s σ H Q I (w _ _ _ q)⟩
theorem psW {X : Cx} {e : Stmt} {t t' : TS} (h : PS X e t) (w : ∀ D σ H, t' D σ H → t D σ H) : PS X e t' := ⟨fun pins s σ H D I q => h.run pins s σ H D I (w _ _ _ q)⟩
theorem pssW {X : Cx} {e : List Stmt} {t t' : TS} (h : PSs X e t) (w : ∀ D σ H, t' D σ H → t D σ H) : PSs X e t' := ⟨fun pins s σ H D I q => h.run pins s σ H D I (w _ _ _ q)⟩
theorem concE.use {K : Kf} {H0 : Hp} {u : TEp} {σ : L2.St} {H : Hp} {Q : VK} {σp : PSt} {M : PHp} {Qp : PVK} (h : u σp M Qp) (t : Tk K H0 H) (s : RelS K H σp σ) (m : RelM K H M)
    (k : ∀ v H' p M', Tk K H H' → RelM K H' M' → Rep K H' p v → Qp p M' → Q v H') : concE K H0 u σ H Q := ⟨σp, M, Qp, t, s, m, h, k⟩

/-! ### leaves -/
section
variable {X : Cx} {H0 : Hp} {pos : Pos}
@[reducible] def tv (i : Nat) : TEp := fun σ M Q => match σ[i]? with | some (some p) => Q p M | _ => False
@[reducible] def tc (p : PV) : TEp := fun _ M Q => Q p M
theorem pv (i : Nat) {x : Str} (hN : X.N[i]? = some x := by rfl) (hv : Vis X.env.scope x := by first | exact Or.inl rfl | exact Or.inr (Or.inl rfl) | exact Or.inr (Or.inr rfl)) (hd : (x == ("__debug__" : Str)) = false := by decide)
    (hcd : (x == ("__classdict__" : Str)) = false := by decide) : PEp X H0 (.Name x pos) (tv i) :=
  peW (pe_var hN hv hd hcd) fun σ H Q ⟨σp, M, Qp, t, s, m, u, k⟩ => by
    unfold tv at u
    split at u
    · next p e =>
      obtain ⟨v, e1, r⟩ := s.get e
      exact ⟨v, e1, k v H p M (Tk.refl _ _) m r u⟩
    · exact u.elim
theorem pinT {i : Int} {j} : PEp X H0 (.Constant (.int i) j pos) (tc (.int i)) := peW pe_int fun σ H Q ⟨_, M, _, _, _, m, u, k⟩ => k _ H _ M (Tk.refl _ _) m (.int i) u
theorem pbl {i : Bool} {j} : PEp X H0 (.Constant (.bool i) j pos) (tc (.bl i)) := peW pe_bl fun σ H Q ⟨_, M, _, _, _, m, u, k⟩ => k _ H _ M (Tk.refl _ _) m (.bl i) u
theorem pnon {j} : PEp X H0 (.Constant .none j pos) (tc .non) := peW pe_non fun σ H Q ⟨_, M, _, _, _, m, u, k⟩ => k _ H _ M (Tk.refl _ _) m .non u
theorem pstr {x j} : PEp X H0 (.Constant (.str x) j pos) (tc (.str x)) := peW pe_str fun σ H Q ⟨_, M, _, _, _, m, u, k⟩ => k _ H _ M (Tk.refl _ _) m (.str x) u
/-- the module's own constant -/
theorem pglob {x : Str} {p : PV} {v : V} {u : Value} (hg : Gl X x) (hm : X.mg x = some u) (r : RelV v u) (hr : ∀ H, Rep X.K H p v) (hd : (x == ("__debug__" : Str)) = false := by decide) : PEp X H0 (.Name x pos) (tc p) :=
  peW (pe_glob hg hm r hd) fun σ H Q ⟨_, M, _, _, _, m, u, k⟩ => k _ H _ M (Tk.refl _ _) m (hr H) u
theorem pbltn {x : Str} {p : PV} {v : V} {u : Value} (hg : Gl X x) (hm : X.mg x = none) (hv : bootBuiltins x = some u) (r : RelV v u) (hr : ∀ H, Rep X.K H p v) (hn : x ≠ "__name__" := by decide) (hd : (x == ("__debug__" : Str)) = false := by decide) : PEp X H0 (.Name x pos) (tc p) :=
  peW (pe_bltn hg hm hv r hn hd) fun σ H Q ⟨_, M, _, _, _, m, u, k⟩ => k _ H _ M (Tk.refl _ _) m (hr H) u

/-! ### two-place operations on values -/
abbrev R2p := PV → PV → PHp → PVK → Prop
def SimR (K : Kf) (r : R2) (u : R2p) : Prop := ∀ x y H px py M (Q : VK) (Qp : PVK), Rep K H px x → Rep K H py y → RelM K H M → u px py M Qp → (∀ v H' p M', Tk K H H' → RelM K H' M' → Rep K H' p v → Qp p M' → Q v H') → r x y H Q
abbrev R1p := PV → PHp → PVK → Prop
def SimU (K : Kf) (r : V → Hp → VK → Prop) (u : R1p) : Prop := ∀ x H px M (Q : VK) (Qp : PVK), Rep K H px x → RelM K H M → u px M Qp → (∀ v H' p M', Tk K H H' → RelM K H' M' → Rep K H' p v → Qp p M' → Q v H') → r x H Q
abbrev RCp := List PV → PHp → PVK → Prop
def SimC (K : Kf) (r : List V → Hp → VK → Prop) (u : RCp) : Prop := ∀ xs H ps M (Q : VK) (Qp : PVK), Reps K H ps xs → RelM K H M → u ps M Qp → (∀ v H' p M', Tk K H H' → RelM K H' M' → Rep K H' p v → Qp p M' → Q v H') → r xs H Q
def OpP (X : Cx) (f : Value → Value → Sem Value) (u : R2p) : Prop := ∃ r, OpR X f r ∧ SimR X.K r u
def UnP (X : Cx) (f : Value → Sem Value) (u : R1p) : Prop := ∃ r, UnR X f r ∧ SimU X.K r u
def CallP (X : Cx) (f : Value) (u : RCp) : Prop := ∃ r, CallR X f r ∧ SimC X.K r u
@[reducible] def tOp (r : R2p) (ta tb : TEp) : TEp := fun σ M Q => ta σ M fun x M1 => tb σ M1 fun y M2 => r x y M2 Q
@[reducible] def tUn (r : R1p) (ta : TEp) : TEp := fun σ M Q => ta σ M fun x M1 => r x M1 Q
variable {a b : Expr} {ta tb : TEp} {r : R2p}
theorem op_conc {K : Kf} {r0 : R2} (hs : SimR K r0 r) {σ : L2.St} {H : Hp} {Q : VK} (h : concE K H0 (tOp r ta tb) σ H Q) : L2.tOp r0 (concE K H0 ta) (concE K H0 tb) σ H Q := by
  obtain ⟨σp, M, Qp, t, s, m, u, k⟩ := h
  refine ⟨σp, M, _, t, s, m, u, fun x H1 px M1 t1 m1 rx u1 => ?_⟩
  refine ⟨σp, M1, _, t.trans t1, s.mono t1, m1, u1, fun y H2 py M2 t2 m2 ry u2 => ?_⟩
  exact hs x y H2 px py M2 Q Qp (rx.mono t2) ry m2 u2 fun v H3 p M3 t3 m3 rv q => k v H3 p M3 ((t1.trans t2).trans t3) m3 rv q
theorem pop {op : Operator} (ho : OpP X (binaryOp op) r) (ha : PEp X H0 a ta) (hb : PEp X H0 b tb) : PEp X H0 (.BinOp a op b pos) (tOp r ta tb) := by
  obtain ⟨r0, h1, h2⟩ := ho
  exact peW (pe_op h1 ha hb) fun σ H Q h => op_conc h2 h
theorem pun {op : UnaryOp} {r : R1p} (ho : UnP X (unaryOp op) r) (ha : PEp X H0 a ta) : PEp X H0 (.UnaryOp op a pos) (tUn r ta) := by
  obtain ⟨r0, h1, h2⟩ := ho
  exact peW (pe_un h1 ha) fun σ H Q ⟨σp, M, Qp, t, s, m, u, k⟩ => ⟨σp, M, _, t, s, m, u, fun x H1 px M1 t1 m1 rx u1 => h2 x H1 px M1 Q Qp rx m1 u1 fun v H2 p M2 t2 m2 rv q => k v H2 p M2 (t1.trans t2) m2 rv q⟩
theorem pcmp {op : CmpOp} (ho : OpP X (compareOp op) r) (ha : PEp X H0 a ta) (hb : PEp X H0 b tb) (hm : behindInMarks op b = false) : PEp X H0 (.Compare a [op] [b] pos) (tOp r ta tb) := by
  obtain ⟨r0, h1, h2⟩ := ho
  exact peW (pe_cmpR h1 ha hb hm) fun σ H Q h => op_conc h2 h
/-! ### tests -/
@[reducible] def tB (t : TEp) : TTp := fun σ M Q => t σ M fun x M1 => match x with | .bl c => Q c M1 | _ => False
theorem tB_conc {K : Kf} {te : TEp} {σ : L2.St} {H : Hp} {Q : Bool → Hp → Prop} (h : concT K H0 (tB te) σ H Q) : concE K H0 te σ H fun x H' => ∃ k, x = .bl k ∧ Q k H' := by
  obtain ⟨σp, M, Qp, t, s, m, u, k⟩ := h
  refine ⟨σp, M, _, t, s, m, u, fun x H1 px M1 t1 m1 rx u1 => ?_⟩
  cases rx with
  | bl c => exact ⟨c, rfl, k c H1 M1 t1 m1 u1⟩
  | _ => exact u1.elim
theorem op_conc' {K : Kf} {r0 : R2} (hs : SimR K r0 r) {σ : L2.St} {H : Hp} {Q : Bool → Hp → Prop} (h : concT K H0 (tB (tOp r ta tb)) σ H Q) : tTest (L2.tOp r0 (concE K H0 ta) (concE K H0 tb)) σ H Q := by
  have h2 := tB_conc h
  exact op_conc hs h2
theorem ptcmp {op : CmpOp} (ho : OpP X (compareOp op) r) (ha : PEp X H0 a ta) (hb : PEp X H0 b tb) (hm : behindInMarks op b = false) : PTp X H0 (.Compare a [op] [b] pos) (tB (tOp r ta tb)) := by
  obtain ⟨r0, h1, h2⟩ := ho
  exact ptW (pt_cmpR h1 ha hb hm) fun σ H Q h => op_conc' h2 h
theorem ptval {e : Expr} {te : TEp} (h : PEp X H0 e te) (he : ∀ whole, isTrue e X.env whole = (do let v ← whole; standAt e.pos; holding [v] (truthy v)) := by intro _; rfl) : PTp X H0 e (tB te) :=
  ptW (pt_val h he) fun σ H Q h => tB_conc h
/-- two ways -/
@[irreducible] def br (b : Bool) (A B : Prop) : Prop := if b = true then A else B
theorem br_of {b : Bool} {A B : Prop} (h1 : b = true → A) (h2 : b = false → B) : br b A B := by
  unfold br; cases b
  · rw [if_neg Bool.false_ne_true]; exact h2 rfl
  · rw [if_pos rfl]; exact h1 rfl
theorem br_t {b : Bool} {A B : Prop} (h : b = true) (h1 : A) : br b A B := br_of (fun _ => h1) fun e => by rw [h] at e; cases e
theorem br_f {b : Bool} {A B : Prop} (h : b = false) (h1 : B) : br b A B := br_of (fun e => by rw [h] at e; cases e) fun _ => h1
theorem br_tt {A B : Prop} (h : A) : br true A B := br_t rfl h
theorem br_ff {A B : Prop} (h : B) : br false A B := br_f rfl h
theorem br_nt {A B : Prop} (h : B) : br (!true) A B := br_f rfl h
theorem br_nf {A B : Prop} (h : A) : br (!false) A B := br_t rfl h
theorem br_dec {c A B : Prop} [Decidable c] (h1 : c → A) (h2 : ¬ c → B) : br (decide c) A B := br_of (fun e => h1 (of_decide_eq_true e)) fun e => h2 (of_decide_eq_false e)
theorem br_ndec {c A B : Prop} [Decidable c] (h1 : ¬ c → A) (h2 : c → B) : br (!decide c) A B := br_of (fun e => h1 (by simpa using e)) fun e => h2 (by simpa using e)
theorem br_ite {b : Bool} {A B : Prop} (h : br b A B) : if b = true then A else B := by unfold br at h; exact h
theorem br_imp {b : Bool} {A B A' B' : Prop} (h : br b A B) (h1 : A → A') (h2 : B → B') : if b = true then A' else B' := by
  unfold br at h; cases b
  · rw [if_neg Bool.false_ne_true] at h ⊢; exact h2 h
  · rw [if_pos rfl] at h ⊢; exact h1 h
@[reducible] def tAnd (t u : TTp) : TTp := fun σ M Q => t σ M fun c M1 => br c (u σ M1 Q) (Q false M1)
@[reducible] def tOr (t u : TTp) : TTp := fun σ M Q => t σ M fun c M1 => br c (Q true M1) (u σ M1 Q)
@[reducible] def tNot (t : TTp) : TTp := fun σ M Q => t σ M fun c M1 => Q (!c) M1
variable {tt uu : TTp} {rest : List Expr}
theorem pwand1 (ha : PTp X H0 a tt) : PWp X H0 (.BoolOp .And [a] pos) tt := pw_and1 ha
theorem pwor1 (ha : PTp X H0 a tt) : PWp X H0 (.BoolOp .Or [a] pos) tt := pw_or1 ha
theorem pwand (ha : PTp X H0 a tt) (hb : PWp X H0 (.BoolOp .And (b :: rest) pos) uu) : PWp X H0 (.BoolOp .And (a :: b :: rest) pos) (tAnd tt uu) :=
  pwW (pw_and ha hb) fun σ H Q ⟨σp, M, Qp, t, s, m, u, k⟩ => ⟨σp, M, _, t, s, m, u, fun c H1 M1 t1 m1 u1 => br_imp u1 (fun q => ⟨σp, M1, Qp, t.trans t1, s.mono t1, m1, q, fun d H2 M2 t2 => k d H2 M2 (t1.trans t2)⟩) fun q => k false H1 M1 t1 m1 q⟩
theorem pwor (ha : PTp X H0 a tt) (hb : PWp X H0 (.BoolOp .Or (b :: rest) pos) uu) : PWp X H0 (.BoolOp .Or (a :: b :: rest) pos) (tOr tt uu) :=
  pwW (pw_or ha hb) fun σ H Q ⟨σp, M, Qp, t, s, m, u, k⟩ => ⟨σp, M, _, t, s, m, u, fun c H1 M1 t1 m1 u1 => br_imp u1 (fun q => k true H1 M1 t1 m1 q) fun q => ⟨σp, M1, Qp, t.trans t1, s.mono t1, m1, q, fun d H2 M2 t2 => k d H2 M2 (t1.trans t2)⟩⟩
theorem ptnot (ha : PTp X H0 a tt) : PTp X H0 (.UnaryOp .Not a pos) (tNot tt) :=
  ptW (pt_not ha) fun σ H Q ⟨σp, M, Qp, t, s, m, u, k⟩ => ⟨σp, M, _, t, s, m, u, fun c H1 M1 t1 m1 u1 => k (!c) H1 M1 t1 m1 u1⟩
/-! ### and, or, not as values of truth -/
@[reducible] def tAndV (ta tb : TEp) : TEp := fun σ M Q => ta σ M fun x M1 => match x with | .bl c => br c (tb σ M1 Q) (Q (.bl false) M1) | _ => False
@[reducible] def tOrV (ta tb : TEp) : TEp := fun σ M Q => ta σ M fun x M1 => match x with | .bl c => br c (Q (.bl true) M1) (tb σ M1 Q) | _ => False
@[reducible] def tNotV (ta : TEp) : TEp := fun σ M Q => ta σ M fun x M1 => match x with | .bl c => Q (.bl (!c)) M1 | _ => False
theorem pone {op} (h : PEp X H0 a ta) : PEp X H0 (.BoolOp op [a] pos) ta := pe_one h
theorem pand (ha : PEp X H0 a ta) (hb : PEp X H0 (.BoolOp .And (b :: rest) pos) tb) : PEp X H0 (.BoolOp .And (a :: b :: rest) pos) (tAndV ta tb) :=
  peW (pe_and ha hb) fun σ H Q ⟨σp, M, Qp, t, s, m, u, k⟩ => ⟨σp, M, _, t, s, m, u, fun x H1 px M1 t1 m1 rx u1 => by
    cases rx with
    | bl c => exact ⟨c, rfl, br_imp u1 (fun q => ⟨σp, M1, Qp, t.trans t1, s.mono t1, m1, q, fun v H2 p M2 t2 => k v H2 p M2 (t1.trans t2)⟩) fun q => k _ H1 _ M1 t1 m1 (.bl false) q⟩
    | _ => exact u1.elim⟩
theorem por (ha : PEp X H0 a ta) (hb : PEp X H0 (.BoolOp .Or (b :: rest) pos) tb) : PEp X H0 (.BoolOp .Or (a :: b :: rest) pos) (tOrV ta tb) :=
  peW (pe_or ha hb) fun σ H Q ⟨σp, M, Qp, t, s, m, u, k⟩ => ⟨σp, M, _, t, s, m, u, fun x H1 px M1 t1 m1 rx u1 => by
    cases rx with
    | bl c => exact ⟨c, rfl, br_imp u1 (fun q => k _ H1 _ M1 t1 m1 (.bl true) q) fun q => ⟨σp, M1, Qp, t.trans t1, s.mono t1, m1, q, fun v H2 p M2 t2 => k v H2 p M2 (t1.trans t2)⟩⟩
    | _ => exact u1.elim⟩
theorem pnot (ha : PEp X H0 a ta) : PEp X H0 (.UnaryOp .Not a pos) (tNotV ta) :=
  peW (pe_not ha) fun σ H Q ⟨σp, M, Qp, t, s, m, u, k⟩ => ⟨σp, M, _, t, s, m, u, fun x H1 px M1 t1 m1 rx u1 => by
    cases rx with
    | bl c => exact ⟨c, rfl, k _ H1 _ M1 t1 m1 (.bl (!c)) u1⟩
    | _ => exact u1.elim⟩
@[reducible] def tIf (t : TTp) (ta tb : TEp) : TEp := fun σ M Q => t σ M fun c M1 => br c (ta σ M1 Q) (tb σ M1 Q)
theorem pifx {c : Expr} (hc : PTp X H0 c tt) (ha : PEp X H0 a ta) (hb : PEp X H0 b tb) : PEp X H0 (.IfExp c a b pos) (tIf tt ta tb) :=
  peW (pe_ifExp hc ha hb) fun σ H Q ⟨σp, M, Qp, t, s, m, u, k⟩ => ⟨σp, M, _, t, s, m, u, fun c H1 M1 t1 m1 u1 => br_imp u1
    (fun q => ⟨σp, M1, Qp, t.trans t1, s.mono t1, m1, q, fun v H2 p M2 t2 => k v H2 p M2 (t1.trans t2)⟩) fun q => ⟨σp, M1, Qp, t.trans t1, s.mono t1, m1, q, fun v H2 p M2 t2 => k v H2 p M2 (t1.trans t2)⟩⟩
/-- a < b < c -/
@[reducible] def tChain (r r' : R2p) (ta tb tc : TEp) : TEp := fun σ M Q => ta σ M fun x M1 => tb σ M1 fun y M2 => r x y M2 fun z M3 => match z with | .bl k => br k (tc σ M3 fun w M4 => r' y w M4 Q) (Q (.bl false) M3) | _ => False
end
end PL

set_option Elab.async false
set_option linter.all false
set_option maxRecDepth 100000
set_option maxHeartbeats 2000000
/-! PL2: operators on values, calls of built-ins, subscripts. -/
namespace PL
open PySem L2
section
variable {X : Cx} {H0 : Hp} {pos : Pos} {K : Kf}

abbrev Kont (K : Kf) (H : Hp) (Q : VK) (Qp : PVK) : Prop := ∀ v H' p M', Tk K H H' → RelM K H' M' → Rep K H' p v → Qp p M' → Q v H'
/-- a new list, a new tuple -/
theorem new_lst {H : Hp} {M : PHp} {p : Addr} {l : List PV} {vs : List V} {Q : VK} {Qp : PVK} (m : RelM K H M) (hp : H p = none) (r : Reps K H l vs)
    (u : ∀ p, M p = none → Qp (.ref p) (updM M p (.lst l))) (k : Kont K H Q Qp) : Q (.ref p) (upd H p (.lst vs)) := by
  have t : Tk K H (upd H p (.lst vs)) := .new hp
  exact k _ _ _ _ t (m.put (m := .lst l) t ⟨vs, upd_same, r.mono t⟩) (.ref p) (u p (m.fresh hp))
theorem new_tup {H : Hp} {M : PHp} {l : List PV} {vs : List V} {Q : VK} {Qp : PVK} (m : RelM K H M) (r : Reps K H l vs)
    (u : Qp (.tup l) M) (k : Kont K H Q Qp) : NewT H vs Q := fun p ob hp hd => by
  have t : Tk K H (upd H p (.frz ob (.tup vs))) := .new hp
  exact k _ _ _ _ t (m.new hp) (.tup (.inl ⟨ob, upd_same, hd⟩) (r.mono t)) u
theorem old_tup {H : Hp} {M : PHp} {p : Addr} {l : List PV} {vs : List V} {Q : VK} {Qp : PVK} (m : RelM K H M) (h : SqX K H p vs) (r : Reps K H l vs)
    (u : Qp (.tup l) M) (k : Kont K H Q Qp) : Q (.ref p) H := k _ _ _ _ (Tk.refl _ _) m (.tup h r) u

/-! ### + - * // % ** -/
def addP : R2p := fun x y M Q => match x, y with
  | .int i, .int j => Q (.int (i + j)) M
  | .str a, .str b => a.length + b.length ≤ sizeLine ∧ Q (.str (a ++ b)) M
  | .tup a, .tup b => a.length + b.length ≤ sizeLine ∧ Q (.tup (a ++ b)) M
  | .ref a, .ref b => ∃ xs ys, M a = some (.lst xs) ∧ M b = some (.lst ys) ∧ xs.length + ys.length ≤ sizeLine ∧ ∀ p, M p = none → Q (.ref p) (updM M p (.lst (xs ++ ys)))
  | _, _ => False
theorem opAdd : OpP X (binaryOp .Add) addP := by
  refine ⟨_, op_add.or (op_add_str.or (op_catX.or op_cat)), fun x y H px py M Q Qp rx ry m u k => ?_⟩
  cases rx with
  | int i => cases ry with
    | int j => exact .inl ⟨i, j, rfl, rfl, k _ _ _ _ (Tk.refl _ _) m (.int _) u⟩
    | _ => exact u.elim
  | str i => cases ry with
    | str j => exact .inr (.inl ⟨i, j, rfl, rfl, u.1, k _ _ _ _ (Tk.refl _ _) m (.str _) u.2⟩)
    | _ => exact u.elim
  | tup h r => cases ry with
    | tup h' r' =>
      refine .inr (.inr (.inl ⟨_, _, _, _, rfl, rfl, h, h', by rw [← r.length, ← r'.length]; exact u.1, fun e => ?_, fun _ e => ?_, fun _ _ => new_tup m (r.append r') u.2 k⟩))
      · subst e; cases r; exact old_tup m h' r' u.2 k
      · subst e; cases r'; refine old_tup m h r ?_ k
        have := u.2; rwa [List.append_nil] at this
    | _ => exact u.elim
  | ref a => cases ry with
    | ref b =>
      obtain ⟨xs, ys, h1, h2, h3, h4⟩ := u
      obtain ⟨vs, e1, r1⟩ := m _ _ h1
      obtain ⟨ws, e2, r2⟩ := m _ _ h2
      exact .inr (.inr (.inr ⟨_, _, _, _, rfl, rfl, e1, e2, by rw [← r1.length, ← r2.length]; exact h3, fun p hp => new_lst m hp (r1.append r2) h4 k⟩))
    | _ => exact u.elim
  | _ => exact u.elim
def subP : R2p := fun x y M Q => match x, y with
  | .int i, .int j => Q (.int (i - j)) M
  | _, _ => False
theorem opSub : OpP X (binaryOp .Sub) subP := by
  refine ⟨_, op_sub, fun x y H px py M Q Qp rx ry m u k => ?_⟩
  cases rx with
  | int i => cases ry with
    | int j => exact ⟨i, j, rfl, rfl, k _ _ _ _ (Tk.refl _ _) m (.int _) u⟩
    | _ => exact u.elim
  | _ => exact u.elim
/-- the size of an int in bits is at most n -/
def Bt (i : Int) (n : Nat) : Prop := Builtin.Int.intBits i ≤ n
def mulP : R2p := fun x y M Q => match x, y with
  | .int i, .int j => IntMulOk i j ∧ Q (.int (i * j)) M
  | .tup l, .int k => l ≠ [] ∧ 1 ≤ k ∧ k ≤ 1000 ∧ l.length ≤ 1000 ∧ Q (.tup (List.replicate k.toNat l).flatten) M
  | .ref a, .int k => ∃ xs, M a = some (.lst xs) ∧ -(2 ^ 63) ≤ k ∧ k < 2 ^ 63 ∧ xs.length * k.toNat ≤ sizeLine ∧ ∀ p, M p = none → Q (.ref p) (updM M p (.lst (List.replicate k.toNat xs).flatten))
  | _, _ => False
theorem op_mulG : OpR X (binaryOp .Mult) (rI IntMulOk fun i j => .int (i * j)) := opI fun _ _ _ _ _ _ _ hc q => PyProof.Rows.mul_int q hc
theorem Reps.rep {H : Hp} {ps : List PV} {vs : List V} (r : Reps K H ps vs) : ∀ k : Nat, Reps K H (List.replicate k ps).flatten (List.replicate k vs).flatten
  | 0 => .nil
  | k + 1 => by
    simp only [List.replicate_succ, List.flatten_cons]
    exact r.append (Reps.rep r k)
theorem opMul : OpP X (binaryOp .Mult) mulP := by
  refine ⟨_, op_mulG.or ((op_repX.or op_rep1).or op_rep), fun x y H px py M Q Qp rx ry m u k => ?_⟩
  cases rx with
  | int i => cases ry with
    | int j => exact .inl ⟨i, j, rfl, rfl, u.1, k _ _ _ _ (Tk.refl _ _) m (.int _) u.2⟩
    | _ => exact u.elim
  | tup h r => cases ry with
    | int j =>
      obtain ⟨u1, u2, u3, u4, u5⟩ := u
      by_cases one : j = 1
      · subst one
        refine .inr (.inl (.inr ⟨_, _, rfl, rfl, h, old_tup m h r ?_ k⟩))
        have e : (List.replicate (1 : Int).toNat ‹List PV›).flatten = ‹List PV› := by show (List.replicate 1 _).flatten = _; simp
        rw [e] at u5; exact u5
      · exact .inr (.inl (.inl ⟨_, _, _, rfl, rfl, h, fun e => u1 (r.nil_iff.mpr e), by omega, u3, by rw [← r.length]; exact u4, new_tup m (r.rep _) u5 k⟩))
    | _ => exact u.elim
  | ref a => cases ry with
    | int j =>
      obtain ⟨xs, h1, u2, u3, u4, u5⟩ := u
      obtain ⟨vs, e1, r1⟩ := m _ _ h1
      exact .inr (.inr ⟨_, _, _, rfl, rfl, e1, u2, u3, by rw [← r1.length]; exact u4, fun p hp => new_lst m hp (r1.rep _) u5 k⟩)
    | _ => exact u.elim
  | _ => exact u.elim
def modP : R2p := fun x y M Q => match x, y with
  | .int i, .int j => j ≠ 0 ∧ Q (.int (i.fmod j)) M
  | _, _ => False
theorem opMod : OpP X (binaryOp .Mod) modP := by
  refine ⟨_, op_modN, fun x y H px py M Q Qp rx ry m u k => ?_⟩
  cases rx with
  | int i => cases ry with
    | int j => exact ⟨i, j, rfl, rfl, u.1, k _ _ _ _ (Tk.refl _ _) m (.int _) u.2⟩
    | _ => exact u.elim
  | _ => exact u.elim
/-- what // of great ints wants of the whole run -/
structure Sure (P : Program) (base : Heap) : Prop where
  seer : base.NoSeer
  tree : P.given.tree = none
def StackOk (X : Cx) : Prop := ∃ env l, X.stack = env :: l ∧ env.scope.isGenerator = false ∧ env.scope.isCoroutine = false ∧ env.builtins = builtinsNs ∧ env.globals = mainGlobals
def fdivP : R2p := fun x y M Q => match x, y with
  | .int i, .int j => j ≠ 0 ∧ Q (.int (i.fdiv j)) M
  | _, _ => False
theorem pylong_ok {pins : List (Addr × Obj)} {σ : L2.St} {H : Hp} {s : Shared} (I : Inv X pins σ H s) (S : Sure X.prog X.base) (hr : Room 33 X.A) (hst : StackOk X) : PySem.PylongRoom (model X.prog X.w) X.A s := by
  obtain ⟨env, l, e1, e2, e3, e4, e5⟩ := hst
  refine PySem.PylongRoom.of I.nolimit ?_ (PySem.SeerAt.of (env := env) (l := l) (S.seer.keeps I.bk) S.tree (by rw [I.ok.frames, e1]) e2 e3 e4 e5)
  have := hr.dp
  show X.A.depth + 100 < recursionLimit
  omega
theorem op_fdivG (S : Sure X.prog X.base) (hr : Room 33 X.A) (hst : StackOk X) : OpR X (binaryOp .FloorDiv) (rI (fun _ j => j ≠ 0) fun i j => .int (i.fdiv j)) := by
  intro held s σ H x y v u Q I rx ry hh
  obtain ⟨i, j, rfl, rfl, hj, q⟩ := hh
  obtain ⟨t, rfl⟩ := rx
  obtain ⟨t', rfl⟩ := ry
  exact PyProof.Rows.floordiv_int hj ⟨.int _, H, I.tok _, ⟨_, rfl⟩, q⟩ (.inr (pylong_ok I S hr hst))
theorem opFdiv (S : Sure X.prog X.base) (hr : Room 33 X.A) (hst : StackOk X := by exact ⟨_, _, rfl, rfl, rfl, rfl, rfl⟩) : OpP X (binaryOp .FloorDiv) fdivP := by
  refine ⟨_, op_fdivG S hr hst, fun x y H px py M Q Qp rx ry m u k => ?_⟩
  cases rx with
  | int i => cases ry with
    | int j => exact ⟨i, j, rfl, rfl, u.1, k _ _ _ _ (Tk.refl _ _) m (.int _) u.2⟩
    | _ => exact u.elim
  | _ => exact u.elim
def powP : R2p := fun x y M Q => match x, y with
  | .int i, .int j => (0 ≤ j ∧ j ≤ 1000000 ∧ i.natAbs < 2 ^ 64) ∧ Q (.int (i ^ j.toNat)) M
  | _, _ => False
theorem opPow : OpP X (binaryOp .Pow) powP := by
  refine ⟨_, op_pow, fun x y H px py M Q Qp rx ry m u k => ?_⟩
  cases rx with
  | int i => cases ry with
    | int j => exact ⟨i, j, rfl, rfl, u.1, k _ _ _ _ (Tk.refl _ _) m (.int _) u.2⟩
    | _ => exact u.elim
  | _ => exact u.elim
def negP : R1p := fun x M Q => match x with
  | .int i => Q (.int (-i)) M
  | _ => False
theorem unNeg : UnP X (unaryOp .USub) negP := by
  refine ⟨_, un_neg, fun x H px M Q Qp rx m u k => ?_⟩
  cases rx with
  | int i => exact ⟨i, rfl, k _ _ _ _ (Tk.refl _ _) m (.int _) u⟩
  | _ => exact u.elim

/-! ### comparisons -/
def icmp (f : Int → Int → Bool) : R2p := fun x y M Q => match x, y with
  | .int i, .int j => Q (.bl (f i j)) M
  | _, _ => False
theorem op_icmp {op : CmpOp} {f : Int → Int → Bool} (h : OpR X (compareOp op) (rI0 fun i j => .bl (f i j))) : OpP X (compareOp op) (icmp f) := by
  refine ⟨_, h, fun x y H px py M Q Qp rx ry m u k => ?_⟩
  cases rx with
  | int i => cases ry with
    | int j => exact ⟨i, j, rfl, rfl, k _ _ _ _ (Tk.refl _ _) m (.bl _) u⟩
    | _ => exact u.elim
  | _ => exact u.elim
abbrev leP : R2p := icmp fun i j => decide (i ≤ j)
def gtP : R2p := fun x y M Q => match x, y with
  | .int i, .int j => Q (.bl (decide (j < i))) M
  | .str a, .str b => Q (.bl (decide (b.cps.toList < a.cps.toList))) M
  | _, _ => False
abbrev geP : R2p := icmp fun i j => decide (j ≤ i)
theorem opLe : OpP X (compareOp .LtE) leP := op_icmp op_le
theorem opGt : OpP X (compareOp .Gt) gtP := by
  refine ⟨_, op_gt.or op_gt_str, fun x y H px py M Q Qp rx ry m u k => ?_⟩
  cases rx with
  | int i => cases ry with
    | int j => exact .inl ⟨i, j, rfl, rfl, k _ _ _ _ (Tk.refl _ _) m (.bl _) u⟩
    | _ => exact u.elim
  | str i => cases ry with
    | str j => exact .inr ⟨i, j, rfl, rfl, k _ _ _ _ (Tk.refl _ _) m (.bl _) u⟩
    | _ => exact u.elim
  | _ => exact u.elim
theorem opGe : OpP X (compareOp .GtE) geP := op_icmp op_ge
/-- a < b: ints, texts -/
def ltP : R2p := fun x y M Q => match x, y with
  | .int i, .int j => Q (.bl (decide (i < j))) M
  | .str a, .str b => Q (.bl (decide (a.cps.toList < b.cps.toList))) M
  | .tup a, .tup b => ∃ ns ms, a = ns.map PV.int ∧ b = ms.map PV.int ∧ Q (.bl (HT.lexLt ns ms)) M
  | _, _ => False
theorem opLt (hu : X.A.units < cLine) : OpP X (compareOp .Lt) ltP := by
  refine ⟨_, op_lt.or (op_lt_str.or (op_ltT hu)), fun x y H px py M Q Qp rx ry m u k => ?_⟩
  cases rx with
  | int i => cases ry with
    | int j => exact .inl ⟨i, j, rfl, rfl, k _ _ _ _ (Tk.refl _ _) m (.bl _) u⟩
    | _ => exact u.elim
  | str i => cases ry with
    | str j => exact .inr (.inl ⟨i, j, rfl, rfl, k _ _ _ _ (Tk.refl _ _) m (.bl _) u⟩)
    | _ => exact u.elim
  | tup h r => cases ry with
    | tup h' r' =>
      obtain ⟨ns, ms, rfl, rfl, q⟩ := u
      have e1 := r.ints; have e2 := r'.ints
      subst e1; subst e2
      exact .inr (.inr ⟨_, _, ns, ms, rfl, rfl, h.t, h'.t, k _ _ _ _ (Tk.refl _ _) m (.bl _) q⟩)
    | _ => exact u.elim
  | _ => exact u.elim
/-! == by content -/
mutual
inductive DpP (K : Kf) (M : PHp) : PV → PyData → Prop
  | non : DpP K M .non .none
  | bl (b) : DpP K M (.bl b) (.bool b)
  | int (b) : DpP K M (.int b) (.int b)
  | str (b) : DpP K M (.str b) (.str b)
  | tup {l ds} : DpsP K M l ds → DpP K M (.tup l) (.tuple ds)
  | lst {a l ds} : rdL K M a l → DpsP K M l ds → DpP K M (.ref a) (.list ds)
inductive DpsP (K : Kf) (M : PHp) : List PV → List PyData → Prop
  | nil : DpsP K M [] []
  | cons {p d ps ds} : DpP K M p d → DpsP K M ps ds → DpsP K M (p :: ps) (d :: ds)
end
mutual
theorem DpP.to {H : Hp} {M : PHp} (m : RelM K H M) : ∀ {p d v}, DpP K M p d → Rep K H p v → Dp K H v d
  | _, _, _, .non, .non => .non
  | _, _, _, .bl b, .bl _ => .bl b
  | _, _, _, .int b, .int _ => .int b
  | _, _, _, .str b, .str _ => .str b
  | _, _, _, .tup h, .tup a r => .tup a.t (DpsP.to m h r)
  | _, _, _, .lst h q, .ref _ => let ⟨_, e, r⟩ := h.to m; .lst e (DpsP.to m q r)
theorem DpsP.to {H : Hp} {M : PHp} (m : RelM K H M) : ∀ {p d v}, DpsP K M p d → Reps K H p v → DpAll K H v d
  | _, _, _, .nil, .nil => .nil
  | _, _, _, .cons h q, .cons r s => .cons (DpP.to m h r) (DpsP.to m q s)
end
/-- data without dicts, not deep -/
abbrev flatD (d : PyData) : Prop := d.plain = true ∧ d.depth ≤ 64
theorem flat_of {d : PyData} (h : SeqAt.shaped d = true) : flatD d := ⟨PyData.plain_of_canLay0 d (SeqAt.canLay_of_shaped h), SeqAt.depth_of_shaped h⟩
@[irreducible] def eqD (K : Kf) (x y : PV) (M : PHp) (Q : Bool → Prop) : Prop := ∃ d e, DpP K M x d ∧ DpP K M y e ∧ flatD d ∧ flatD e ∧ Q (PyData.eqv d e)
theorem eqD_of {x y : PV} {M : PHp} {Q : Bool → Prop} {d e : PyData} (h1 : DpP K M x d) (h2 : DpP K M y e) (h3 : SeqAt.shaped d = true) (h4 : SeqAt.shaped e = true) (q : Q (PyData.eqv d e)) : eqD K x y M Q := by
  unfold eqD; exact ⟨d, e, h1, h2, flat_of h3, flat_of h4, q⟩
theorem eqD_fl {x y : PV} {M : PHp} {Q : Bool → Prop} {d e : PyData} (h1 : DpP K M x d) (h2 : DpP K M y e) (h3 : flatD d) (h4 : flatD e) (q : Q (PyData.eqv d e)) : eqD K x y M Q := by
  unfold eqD; exact ⟨d, e, h1, h2, h3, h4, q⟩
theorem eqD_to {x y : PV} {M : PHp} {Q : Bool → Prop} (h : eqD K x y M Q) : ∃ d e, DpP K M x d ∧ DpP K M y e ∧ flatD d ∧ flatD e ∧ Q (PyData.eqv d e) := by
  unfold eqD at h; exact h
def rEqF (K : Kf) : R2 := fun x y H Q => ∃ d e, Dp K H x d ∧ Dp K H y e ∧ flatD d ∧ flatD e ∧ Q (.bl (PyData.eqv d e)) H
def rNeF (K : Kf) : R2 := fun x y H Q => ∃ d e, Dp K H x d ∧ Dp K H y e ∧ flatD d ∧ flatD e ∧ Q (.bl (!PyData.eqv d e)) H
theorem room64 {n a b : Nat} (h : n + 64 < cLine) (ha : a ≤ 64) : n + min a b < cLine := by
  have := Nat.min_le_left a b
  omega
theorem op_eqF (hu : X.A.units + 64 < cLine) : OpR X (compareOp .Eq) (rEqF X.K) := by
  intro pins s σ H x y v u Q I rx ry h
  obtain ⟨d, e, hd, he, sd, se, q⟩ := h
  obtain ⟨as, r1⟩ := Dp.reads I d x v hd rx
  obtain ⟨bs, r2⟩ := Dp.reads I e y u he ry
  exact SeqAt.eq_plain r1 r2 sd.1 se.1 (room64 hu sd.2) ⟨.bl _, H, I, rfl, q⟩
theorem op_neF (hu : X.A.units + 64 < cLine) : OpR X (compareOp .NotEq) (rNeF X.K) := by
  intro pins s σ H x y v u Q I rx ry h
  obtain ⟨d, e, hd, he, sd, se, q⟩ := h
  obtain ⟨as, r1⟩ := Dp.reads I d x v hd rx
  obtain ⟨bs, r2⟩ := Dp.reads I e y u he ry
  exact SeqAt.ne_plain r1 r2 sd.1 se.1 (room64 hu sd.2) ⟨.bl _, H, I, rfl, q⟩
/-- of one kind, plainly -/
def eqP (K : Kf) : R2p := fun x y M Q => match x, y with
  | .int i, .int j => Q (.bl (decide (i = j))) M
  | .str i, .str j => Q (.bl (decide (i = j))) M
  | .bl i, .bl j => Q (.bl (decide (i = j))) M
  | x, y => eqD K x y M fun b => Q (.bl b) M
def neP (K : Kf) : R2p := fun x y M Q => match x, y with
  | .int i, .int j => Q (.bl (!decide (i = j))) M
  | .str i, .str j => Q (.bl (!decide (i = j))) M
  | .bl i, .bl j => Q (.bl (!decide (i = j))) M
  | x, y => eqD K x y M fun b => Q (.bl (!b)) M
theorem dV_int {i j : Int} : decide (V.int i = V.int j) = decide (i = j) := by by_cases h : i = j <;> simp [h]
theorem dV_str {i j : Str} : decide (V.str i = V.str j) = decide (i = j) := by by_cases h : i = j <;> simp [h]
theorem dV_bl {i j : Bool} : decide (V.bl i = V.bl j) = decide (i = j) := by by_cases h : i = j <;> simp [h]
theorem opEq (hu : X.A.units + 64 < cLine) : OpP X (compareOp .Eq) (eqP X.K) := by
  refine ⟨_, op_eq.or (op_eqF hu), fun x y H px py M Q Qp rx ry m u k => ?_⟩
  have deep : eqD X.K px py M (fun b => Qp (.bl b) M) → rEq x y H Q ∨ rEqF X.K x y H Q := fun h => let ⟨d, e, h1, h2, h3, h4, q⟩ := eqD_to h; .inr ⟨d, e, h1.to m rx, h2.to m ry, h3, h4, k _ _ _ _ (Tk.refl _ _) m (.bl _) q⟩
  cases rx with
  | int i => cases ry with
    | int j => exact .inl ⟨rfl, by rw [dV_int]; exact k _ _ _ _ (Tk.refl _ _) m (.bl _) u⟩
    | _ => exact deep u
  | str i => cases ry with
    | str j => exact .inl ⟨rfl, by rw [dV_str]; exact k _ _ _ _ (Tk.refl _ _) m (.bl _) u⟩
    | _ => exact deep u
  | bl i => cases ry with
    | bl j => exact .inl ⟨rfl, by rw [dV_bl]; exact k _ _ _ _ (Tk.refl _ _) m (.bl _) u⟩
    | _ => exact deep u
  | _ => exact deep u
theorem opNe (hu : X.A.units + 64 < cLine) : OpP X (compareOp .NotEq) (neP X.K) := by
  refine ⟨_, op_ne.or (op_neF hu), fun x y H px py M Q Qp rx ry m u k => ?_⟩
  have deep : eqD X.K px py M (fun b => Qp (.bl (!b)) M) → rNe x y H Q ∨ rNeF X.K x y H Q := fun h => let ⟨d, e, h1, h2, h3, h4, q⟩ := eqD_to h; .inr ⟨d, e, h1.to m rx, h2.to m ry, h3, h4, k _ _ _ _ (Tk.refl _ _) m (.bl _) q⟩
  cases rx with
  | int i => cases ry with
    | int j => exact .inl ⟨rfl, by rw [dV_int]; exact k _ _ _ _ (Tk.refl _ _) m (.bl _) u⟩
    | _ => exact deep u
  | str i => cases ry with
    | str j => exact .inl ⟨rfl, by rw [dV_str]; exact k _ _ _ _ (Tk.refl _ _) m (.bl _) u⟩
    | _ => exact deep u
  | bl i => cases ry with
    | bl j => exact .inl ⟨rfl, by rw [dV_bl]; exact k _ _ _ _ (Tk.refl _ _) m (.bl _) u⟩
    | _ => exact deep u
  | _ => exact deep u
/-- is None -/
def isNP : R2p := fun x y M Q => match y with
  | .non => (match x with | .non => Q (.bl true) M | _ => Q (.bl false) M)
  | _ => False
def notNP : R2p := fun x y M Q => match y with
  | .non => (match x with | .non => Q (.bl false) M | _ => Q (.bl true) M)
  | _ => False
theorem opIsN : OpP X (compareOp .Is) isNP := by
  refine ⟨_, op_isN, fun x y H px py M Q Qp rx ry m u k => ?_⟩
  cases ry with
  | non => cases rx <;> exact ⟨rfl, k _ _ _ _ (Tk.refl _ _) m (.bl _) u⟩
  | _ => exact u.elim
theorem opNotN : OpP X (compareOp .IsNot) notNP := by
  refine ⟨_, op_notN, fun x y H px py M Q Qp rx ry m u k => ?_⟩
  cases ry with
  | non => cases rx <;> exact ⟨rfl, k _ _ _ _ (Tk.refl _ _) m (.bl _) u⟩
  | _ => exact u.elim

/-! ### x in xs -/
def flatP : PV → Bool
  | .non | .bl _ | .int _ | .str _ => true
  | _ => false
def flEq : PV → PV → Bool
  | .int i, .int j => decide (i = j)
  | .str i, .str j => decide (i = j)
  | .bl i, .bl j => decide (i = j)
  | .non, .non => true
  | .int i, .bl b => i == (if b then 1 else 0)
  | .bl b, .int i => (if b then 1 else 0) == i
  | _, _ => false
end
end PL

set_option Elab.async false
set_option linter.all false
set_option maxRecDepth 100000
set_option maxHeartbeats 2000000
/-! PL3: arguments, displays, calls, subscripts, statements, defs. -/
namespace PL
open PySem L2
theorem szl {n : Nat} (h : Nat.ble n 1000 = true) : n ≤ sizeLine := Nat.le_trans (Nat.le_of_ble_eq_true h) (by rw [sizeLine_eq]; decide)
section
variable {X : Cx} {H0 : Hp} {pos : Pos} {K : Kf}
/-! ### arguments, displays -/
@[reducible] def tNil : TAp := fun _ M Q => Q [] M
@[reducible] def tCons (ta : TEp) (tr : TAp) : TAp := fun σ M Q => ta σ M fun x M1 => tr σ M1 fun xs M2 => Q (x :: xs) M2
variable {e : Expr} {es : List Expr} {te : TEp} {ta : TAp}
theorem panil : PAp X H0 [] tNil := paW pa_nil fun σ H Q ⟨_, M, _, _, _, m, u, k⟩ => k [] H [] M (Tk.refl _ _) m .nil u
theorem pacons (ha : PEp X H0 e te) (hr : PAp X H0 es ta) (hs : starEach (e :: es) X.env = (false, eval e X.env) :: starEach es X.env := by rfl) : PAp X H0 (e :: es) (tCons te ta) :=
  paW (pa_cons ha hr hs) fun σ H Q ⟨σp, M, Qp, t, s, m, u, k⟩ => ⟨σp, M, _, t, s, m, u, fun x H1 px M1 t1 m1 rx u1 =>
    ⟨σp, M1, _, t.trans t1, s.mono t1, m1, u1, fun xs H2 ps M2 t2 m2 rs u2 => k _ H2 _ M2 (t1.trans t2) m2 (.cons (rx.mono t2) rs) u2⟩⟩
@[reducible] def tTup (ta : TAp) : TEp := fun σ M Q => ta σ M fun xs M1 => xs.length ≤ sizeLine ∧ Q (.tup xs) M1
@[reducible] def tLst (ta : TAp) : TEp := fun σ M Q => ta σ M fun xs M1 => xs.length ≤ sizeLine ∧ ∀ p, M1 p = none → Q (.ref p) (updM M1 p (.lst xs))
theorem ptup {x1} (h : PAp X H0 es ta) : PEp X H0 (.Tuple es x1 pos) (tTup ta) :=
  peW (pe_tupX h) fun σ H Q ⟨σp, M, Qp, t, s, m, u, k⟩ => ⟨σp, M, _, t, s, m, u, fun xs H1 ps M1 t1 m1 rs u1 => ⟨by rw [← rs.length]; exact u1.1, new_tup m1 rs u1.2 fun v H2 q M2 t2 => k v H2 q M2 (t1.trans t2)⟩⟩
theorem plst (h : PAp X H0 es ta) : PEp X H0 (.List es pos) (tLst ta) :=
  peW (pe_lst h) fun σ H Q ⟨σp, M, Qp, t, s, m, u, k⟩ => ⟨σp, M, _, t, s, m, u, fun xs H1 ps M1 t1 m1 rs u1 => ⟨by rw [← rs.length]; exact u1.1, fun p hp => new_lst m1 hp rs u1.2 fun v H2 q M2 t2 => k v H2 q M2 (t1.trans t2)⟩⟩

/-! ### calls -/
@[reducible] def tCB (u : RCp) (ta : TAp) : TEp := fun σ M Q => ta σ M fun ps M1 => u ps M1 Q
theorem cb_conc {r : List V → Hp → VK → Prop} {u : RCp} (hs : SimC K r u) {σ : L2.St} {H : Hp} {Q : VK} (h : concE K H0 (tCB u ta) σ H Q) : L2.tCB r (concA K H0 ta) σ H Q := by
  obtain ⟨σp, M, Qp, t, s, m, u, k⟩ := h
  exact ⟨σp, M, _, t, s, m, u, fun xs H1 ps M1 t1 m1 rs u1 => hs xs H1 ps M1 Q Qp rs m1 u1 fun v H2 p M2 t2 => k v H2 p M2 (t1.trans t2)⟩
theorem pcallB {id : String} {x : Str} {p : Pos} {u : RCp} (hc : CallP X (.builtin id) u) (hg : Gl X x) (hm : X.mg x = none) (hv : bootBuiltins x = some (.builtin id)) (ha : PAp X H0 (e :: es) ta) (hn : x ≠ "__name__" := by decide) (hdb : (x == ("__debug__" : Str)) = false := by decide)
    (he : starEach (e :: es) X.env = (false, eval e X.env) :: starEach es X.env := by rfl) (hpl : (backTo pos (starEach es X.env)).any (·.1) = false := by rfl) : PEp X H0 (.Call (.Name x p) (e :: es) [] pos) (tCB u ta) := by
  obtain ⟨r, h1, h2⟩ := hc
  exact peW (pe_callB h1 hg hm hv ha hn hdb he hpl) fun σ H Q h => cb_conc h2 h
theorem pcallTy {T : String} {x : Str} {p : Pos} {u : RCp} (hc : CallP X (.type T) u) (hg : Gl X x) (hm : X.mg x = none) (hv : bootBuiltins x = some (.type T)) (ha : PAp X H0 (e :: es) ta) (hn : x ≠ "__name__" := by decide) (hdb : (x == ("__debug__" : Str)) = false := by decide)
    (he : starEach (e :: es) X.env = (false, eval e X.env) :: starEach es X.env := by rfl) (hpl : (backTo pos (starEach es X.env)).any (·.1) = false := by rfl) : PEp X H0 (.Call (.Name x p) (e :: es) [] pos) (tCB u ta) := by
  obtain ⟨r, h1, h2⟩ := hc
  exact peW (pe_callTy h1 hg hm hv ha hn hdb he hpl) fun σ H Q h => cb_conc h2 h
theorem pcallF {id : String} {x : Str} {p : Pos} {u : RCp} (hc : CallP X (.builtin id) u) (hg : Gl X x) (hm : X.mg x = some (.builtin id)) (ha : PAp X H0 (e :: es) ta) (hdb : (x == ("__debug__" : Str)) = false := by decide)
    (he : starEach (e :: es) X.env = (false, eval e X.env) :: starEach es X.env := by rfl) (hpl : (backTo pos (starEach es X.env)).any (·.1) = false := by rfl) : PEp X H0 (.Call (.Name x p) (e :: es) [] pos) (tCB u ta) := by
  obtain ⟨r, h1, h2⟩ := hc
  exact peW (pe_callBfun h1 hg hm ha hdb he hpl) fun σ H Q h => cb_conc h2 h

def lenP (K : Kf) : RCp := fun xs M Q => match xs with
  | [.tup l] => Q (.int (l.length : Int)) M
  | [.str z] => z.length ≤ sizeLine ∧ Q (.int (z.length : Int)) M
  | [.ref a] => ∃ l, rdL K M a l ∧ Q (.int (l.length : Int)) M
  | _ => False
theorem cLen : CallP X (.builtin "len") (lenP X.K) := by
  refine ⟨_, call_len, fun xs H ps M Q Qp rs m u k => ?_⟩
  cases rs with
  | nil => exact u.elim
  | cons r rr => cases rr with
    | cons _ _ => cases r <;> exact u.elim
    | nil => cases r with
      | tup h r => exact ⟨_, _, rfl, .inr ⟨_, h.t, rfl⟩, by rw [← r.length]; exact k _ _ _ _ (Tk.refl _ _) m (.int _) u⟩
      | str z => exact ⟨_, _, rfl, ⟨u.1, rfl⟩, k _ _ _ _ (Tk.refl _ _) m (.int _) u.2⟩
      | ref a =>
        obtain ⟨l, h, q⟩ := u
        obtain ⟨vs, e, r⟩ := h.to m
        exact ⟨_, _, rfl, .inl ⟨_, e, rfl⟩, by rw [← r.length]; exact k _ _ _ _ (Tk.refl _ _) m (.int _) q⟩
      | _ => exact u.elim
def absP : RCp := fun xs M Q => match xs with
  | [.int i] => Q (.int (i.natAbs : Int)) M
  | _ => False
theorem cAbs : CallP X (.builtin "abs") absP := by
  refine ⟨_, call_abs, fun xs H ps M Q Qp rs m u k => ?_⟩
  cases rs with
  | nil => exact u.elim
  | cons r rr => cases rr with
    | cons _ _ => cases r <;> exact u.elim
    | nil => cases r with
      | int i =>
        have e : (if i < 0 then -i else i) = (i.natAbs : Int) := by split <;> omega
        exact ⟨i, rfl, by rw [e]; exact k _ _ _ _ (Tk.refl _ _) m (.int _) u⟩
      | _ => exact u.elim
def intP : RCp := fun xs M Q => match xs with
  | [.int i] => Q (.int i) M
  | [.bl b] => Q (.int (if b then 1 else 0)) M
  | _ => False
theorem cInt : CallP X (.type "int") intP := by
  refine ⟨_, call_int1, fun xs H ps M Q Qp rs m u k => ?_⟩
  cases rs with
  | nil => exact u.elim
  | cons r rr => cases rr with
    | cons _ _ => cases r <;> exact u.elim
    | nil => cases r with
      | int i => exact .inl ⟨i, rfl, k _ _ _ _ (Tk.refl _ _) m (.int _) u⟩
      | bl b => exact .inr ⟨b, rfl, k _ _ _ _ (Tk.refl _ _) m (.int _) u⟩
      | _ => exact u.elim
def gcdP : RCp := fun xs M Q => match xs with
  | [.int a, .int b] => Q (.int ((Nat.gcd a.natAbs b.natAbs : Nat) : Int)) M
  | _ => False
theorem cGcd : CallP X (.builtin "math.gcd") gcdP := by
  refine ⟨_, cr_gcd, fun xs H ps M Q Qp rs m u k => ?_⟩
  cases rs with
  | nil => exact u.elim
  | cons r rr => cases rr with
    | nil => cases r <;> exact u.elim
    | cons r2 rr2 => cases rr2 with
      | cons _ _ => cases r <;> cases r2 <;> exact u.elim
      | nil => cases r with
        | int a => cases r2 with
          | int b => exact ⟨a, b, rfl, k _ _ _ _ (Tk.refl _ _) m (.int _) u⟩
          | _ => exact u.elim
        | _ => cases r2 <;> exact u.elim
/-- tuple(xs), list(xs) of lists and tuples -/
def tupleP (K : Kf) : RCp := fun xs M Q => match xs with
  | [.tup l] => Q (.tup l) M
  | [.ref a] => ∃ l, rdL K M a l ∧ Q (.tup l) M
  | _ => False
theorem cTuple : CallP X (.type "tuple") (tupleP X.K) := by
  refine ⟨_, call_tupX, fun xs H ps M Q Qp rs m u k => ?_⟩
  cases rs with
  | nil => exact u.elim
  | cons r rr => cases rr with
    | cons _ _ => cases r <;> exact u.elim
    | nil => cases r with
      | tup h r => exact ⟨_, _, rfl, .inr ⟨h, old_tup m h r u k⟩⟩
      | ref a =>
        obtain ⟨l, h, q⟩ := u
        obtain ⟨vs, e, r⟩ := h.to m
        exact ⟨_, _, rfl, .inl ⟨e, new_tup m r q k⟩⟩
      | _ => exact u.elim
def listP (K : Kf) : RCp := fun xs M Q => match xs with
  | [.tup l] => ∀ p, M p = none → Q (.ref p) (updM M p (.lst l))
  | [.ref a] => ∃ l, rdL K M a l ∧ ∀ p, M p = none → Q (.ref p) (updM M p (.lst l))
  | _ => False
theorem cList : CallP X (.type "list") (listP X.K) := by
  refine ⟨_, call_list_of, fun xs H ps M Q Qp rs m u k => ?_⟩
  cases rs with
  | nil => exact u.elim
  | cons r rr => cases rr with
    | cons _ _ => cases r <;> exact u.elim
    | nil => cases r with
      | tup h r => exact ⟨_, _, rfl, .inr h.t, fun p hp => new_lst m hp r u k⟩
      | ref a =>
        obtain ⟨l, h, q⟩ := u
        obtain ⟨vs, e, r⟩ := h.to m
        exact ⟨_, _, rfl, .inl e, fun p hp => new_lst m hp r q k⟩
      | _ => exact u.elim
/-! isinstance -/
def isiT (t n : String) : Bool := t == n || (t == "bool" && n == "int")
def tyName (K : Kf) (M : PHp) : PV → String → Prop
  | .non, t => t = "NoneType"
  | .bl _, t => t = "bool"
  | .int _, t => t = "int"
  | .str _, t => t = "str"
  | .tup _, t => t = "tuple"
  | .ref a, t => (∃ l, (M a = some (.lst l)) ∧ t = "list") ∨ (∃ l, M a = some (.dK l) ∧ t = "dict")
  | .ty _, _ => False
theorem tyX_of {H : Hp} {M : PHp} (m : RelM K H M) {p : PV} {v : V} {t : String} (r : Rep K H p v) (h : tyName K M p t) : TyX K H v (.type t) := by
  cases r with
  | non => subst h; exact .base .non
  | bl b => subst h; exact .base (.bl b)
  | int b => subst h; exact .base (.int b)
  | str b => subst h; exact .base (.str b)
  | ty b => exact h.elim
  | ref a =>
    rcases h with ⟨l, h, rfl⟩ | ⟨l, h, rfl⟩
    · obtain ⟨vs, e, _⟩ := m a _ h
      exact .base (.lst e)
    · obtain ⟨vs, e, _⟩ := m a _ h
      exact .base (.dK e)
  | tup h1 r =>
    subst h
    rcases h1 with ⟨o, e, _⟩ | ⟨o, _, _, e, c, _⟩
    · exact .fTuple e
    · exact .kTuple e c
def isiKit (t n : String) : Bool := (["NoneType", "bool", "int", "str", "tuple", "list", "dict"].contains t) && (["bool", "int", "str", "tuple", "list", "dict"].contains n)
theorem isi_all : (["NoneType", "bool", "int", "str", "tuple", "list", "dict"].all fun t => ["bool", "int", "str", "tuple", "list", "dict"].all fun n => kitB t n == some (isiT t n)) = true := by decide +kernel
theorem kit_isi {t n : String} (h : isiKit t n = true) : kitB t n = some (isiT t n) := by
  unfold isiKit at h
  rw [Bool.and_eq_true] at h
  have h1 := List.all_eq_true.mp isi_all t (List.contains_iff_mem.mp h.1)
  have h2 := List.all_eq_true.mp h1 n (List.contains_iff_mem.mp h.2)
  exact beq_iff_eq.mp h2
theorem br_i1 {t n : String} {A B : Prop} (h : isiT t n = true) (a : A) : br (isiT t n) A B := br_t h a
theorem br_i0 {t n : String} {A B : Prop} (h : isiT t n = false) (a : B) : br (isiT t n) A B := br_f h a
theorem br_n1 {t n : String} {A B : Prop} (h : isiT t n = true) (a : B) : br (!isiT t n) A B := br_f (by rw [h]; rfl) a
theorem br_n0 {t n : String} {A B : Prop} (h : isiT t n = false) (a : A) : br (!isiT t n) A B := br_t (by rw [h]; rfl) a
def isiP (K : Kf) : RCp := fun xs M Q => match xs with
  | [.non, .ty n] => isiKit "NoneType" n = true ∧ Q (.bl (isiT "NoneType" n)) M
  | [.bl _, .ty n] => isiKit "bool" n = true ∧ Q (.bl (isiT "bool" n)) M
  | [.int _, .ty n] => isiKit "int" n = true ∧ Q (.bl (isiT "int" n)) M
  | [.str _, .ty n] => isiKit "str" n = true ∧ Q (.bl (isiT "str" n)) M
  | [.tup _, .ty n] => isiKit "tuple" n = true ∧ Q (.bl (isiT "tuple" n)) M
  | [.ref a, .ty n] => ∃ t, tyName K M (.ref a) t ∧ isiKit t n = true ∧ Q (.bl (isiT t n)) M
  | _ => False
theorem cIsi : CallP X (.builtin "isinstance") (isiP X.K) := by
  refine ⟨_, call_isi, fun xs H ps M Q Qp rs m u k => ?_⟩
  cases rs with
  | nil => exact u.elim
  | cons r rr => cases rr with
    | nil => cases r <;> exact u.elim
    | cons r2 rr2 => cases rr2 with
      | cons _ _ => cases r <;> cases r2 <;> exact u.elim
      | nil =>
        cases r2 with
        | ty n =>
          have go : ∀ (v : V) (p : PV) (t : String), Rep X.K H p v → tyName X.K M p t → isiKit t n = true → Qp (.bl (isiT t n)) M → rIsi X.K [v, .ty n] H Q := fun v p t r h1 h2 q =>
            ⟨v, .ty n, .type t, .type n, _, rfl, .ty n, tyX_of m r h1, kit_ty (kit_isi h2), k _ _ _ _ (Tk.refl _ _) m (.bl _) q⟩
          cases r with
          | non => exact go _ _ _ .non rfl u.1 u.2
          | bl b => exact go _ _ _ (.bl b) rfl u.1 u.2
          | int b => exact go _ _ _ (.int b) rfl u.1 u.2
          | str b => exact go _ _ _ (.str b) rfl u.1 u.2
          | tup a b => exact go _ _ _ (.tup a b) rfl u.1 u.2
          | ref a => obtain ⟨t, h1, h2, h3⟩ := u; exact go _ _ _ (.ref a) h1 h2 h3
          | ty b => exact u.elim
        | _ => cases r <;> exact u.elim

/-! ### subscripts -/
def ixP (K : Kf) : R2p := fun x y M Q => match x, y with
  | .tup l, .int i => ∃ v, atI l i = some v ∧ Q v M
  | .ref a, .int i => ∃ l, rdL K M a l ∧ ∃ v, atI l i = some v ∧ Q v M
  | .str z, .int i => z.length ≤ sizeLine ∧ ∃ c, atI z.cps.toList i = some c ∧ Q (.str ⟨#[c]⟩) M
  | _, _ => False
theorem Reps.at {H : Hp} {ps : List PV} {vs : List V} {i : Int} {p : PV} (r : Reps K H ps vs) (h : atI ps i = some p) : ∃ v, atI vs i = some v ∧ Rep K H p v := by
  unfold atI at h ⊢
  rw [r.length] at h
  cases e : ixN vs.length i with
  | none => rw [e] at h; cases h
  | some j => rw [e] at h; exact r.get h
theorem pix {a b : Expr} {ta tb : TEp} (ha : PEp X H0 a ta) (hb : PEp X H0 b tb) (hs : PlainIx b := by exact fun _ _ => rfl) : PEp X H0 (.Subscript a b pos) (tOp (ixP X.K) ta tb) := by
  refine peW (pe_ix ix_seq ha hb hs) fun σ H Q h => op_conc (r0 := rIx X.K) (fun x y H px py M Q Qp rx ry m u k => ?_) h
  cases rx with
  | tup h r => cases ry with
    | int i =>
      obtain ⟨v, e, q⟩ := u
      obtain ⟨w, e2, rw⟩ := r.at e
      exact .inr (.inl ⟨_, _, i, w, rfl, rfl, h.t, e2, k _ _ _ _ (Tk.refl _ _) m rw q⟩)
    | _ => exact u.elim
  | ref a => cases ry with
    | int i =>
      obtain ⟨l, h, v, e, q⟩ := u
      obtain ⟨vs, es, r⟩ := h.to m
      obtain ⟨w, e2, rw⟩ := r.at e
      exact .inl ⟨_, _, i, w, rfl, rfl, es, e2, k _ _ _ _ (Tk.refl _ _) m rw q⟩
    | _ => exact u.elim
  | str z => cases ry with
    | int i =>
      obtain ⟨h, c, e, q⟩ := u
      exact .inr (.inr ⟨z, i, c, rfl, rfl, h, e, k _ _ _ _ (Tk.refl _ _) m (.str _) q⟩)
    | _ => exact u.elim
  | _ => exact u.elim

/-! ### statements -/
/-- a stop between two statements -/
@[irreducible] def Stp (u : TSp) (D : PEnds) (σ : PSt) (M : PHp) : Prop := u D σ M
theorem stp {u : TSp} {D : PEnds} {σ : PSt} {M : PHp} (h : u D σ M) : Stp u D σ M := by unfold Stp; exact h
theorem stp_of {u : TSp} {D : PEnds} {σ : PSt} {M : PHp} (h : Stp u D σ M) : u D σ M := by unfold Stp at h; exact h
@[reducible] def tNext : TSp := fun D σ M => D.nx σ M
def nxt (D : PEnds) (f : PSt → PHp → Prop) : PEnds := { nx := f, rt := D.rt, bk := D.bk, ct := D.ct }
@[reducible] def tSeq (t u : TSp) : TSp := fun D σ M => t (nxt D fun σ1 M1 => Stp u D σ1 M1) σ M
variable {st : Stmt} {rest sts : List Stmt} {ts us : TSp}
theorem seq_conc {σ : L2.St} {H : Hp} {D : Ends} (h : concS K H0 (tSeq ts us) D σ H) : L2.tSeq (concS K H0 ts) (concS K H0 us) D σ H := by
  obtain ⟨σp, M, Dp, t, s, m, u, k⟩ := h
  refine ⟨σp, M, _, t, s, m, u, ⟨fun σ1 H1 σp1 M1 t1 s1 m1 q => ?_, k.rt, k.bk, k.ct⟩⟩
  exact ⟨σp1, M1, Dp, t.trans t1, s1, m1, stp_of q, k.mono t1⟩
theorem pssnil : PSsp X H0 [] tNext := pssW pss_nil fun D σ H ⟨σp, M, Dp, t, s, m, u, k⟩ => k.nx _ _ _ _ (Tk.refl _ _) s m u
theorem psscons (h1 : PSp' X H0 st ts) (h2 : PSsp X H0 rest us) : PSsp X H0 (st :: rest) (tSeq ts us) := pssW (pss_cons h1 h2) fun D σ H h => seq_conc h
theorem pssone (h1 : PSp' X H0 st ts) : PSsp X H0 [st] ts := pss_one h1
@[reducible] def tBreak : TSp := fun D σ M => D.bk σ M
@[reducible] def tCont : TSp := fun D σ M => D.ct σ M
theorem pspass : PSp' X H0 (.Pass pos) tNext := psW ps_pass fun D σ H ⟨σp, M, Dp, t, s, m, u, k⟩ => k.nx _ _ _ _ (Tk.refl _ _) s m u
theorem psbreak : PSp' X H0 (.Break pos) tBreak := psW ps_break fun D σ H ⟨σp, M, Dp, t, s, m, u, k⟩ => k.bk _ _ _ _ (Tk.refl _ _) s m u
theorem pscont : PSp' X H0 (.Continue pos) tCont := psW ps_continue fun D σ H ⟨σp, M, Dp, t, s, m, u, k⟩ => k.ct _ _ _ _ (Tk.refl _ _) s m u
theorem psdoc {x j pos'} : PSp' X H0 (.Expr (.Constant (.str x) j pos) pos') tNext := psW ps_doc fun D σ H ⟨σp, M, Dp, t, s, m, u, k⟩ => k.nx _ _ _ _ (Tk.refl _ _) s m u
@[reducible] def tDrop (te : TEp) : TSp := fun D σ M => te σ M fun _ M1 => D.nx σ M1
theorem psexpr (he : PEp X H0 e te) (hs : swapsWith e none pos.line X.env = pure false := by rfl) : PSp' X H0 (.Expr e pos) (tDrop te) :=
  psW (ps_expr he hs) fun D σ H ⟨σp, M, Dp, t, s, m, u, k⟩ => ⟨σp, M, _, t, s, m, u, fun v H1 p M1 t1 m1 r u1 => k.nx _ _ _ _ t1 (s.mono t1) m1 u1⟩
@[reducible] def tRet (te : TEp) : TSp := fun D σ M => te σ M D.rt
theorem psret (he : PEp X H0 e te) : PSp' X H0 (.Return (some e) pos) (tRet te) :=
  psW (ps_ret he) fun D σ H ⟨σp, M, Dp, t, s, m, u, k⟩ => ⟨σp, M, _, t, s, m, u, fun v H1 p M1 t1 m1 r u1 => k.rt _ _ _ _ t1 m1 r u1⟩
@[reducible] def tRetN : TSp := fun D _ M => D.rt .non M
theorem psretN : PSp' X H0 (.Return none pos) tRetN := psW ps_retN fun D σ H ⟨σp, M, Dp, t, s, m, u, k⟩ => k.rt _ _ _ _ (Tk.refl _ _) m .non u
@[reducible] def tIfS (c : TTp) (t u : TSp) : TSp := fun D σ M => c σ M fun b M1 => br b (t D σ M1) (u D σ M1)
theorem psif {c : Expr} {a b : List Stmt} {tc : TTp} (hc : PTp X H0 c tc) (ha : PSsp X H0 a ts) (hb : PSsp X H0 b us) : PSp' X H0 (.If c a b pos) (tIfS tc ts us) :=
  psW (ps_if hc ha hb) fun D σ H ⟨σp, M, Dp, t, s, m, u, k⟩ => ⟨σp, M, _, t, s, m, u, fun c H1 M1 t1 m1 u1 => br_imp u1
    (fun q => ⟨σp, M1, Dp, t.trans t1, s.mono t1, m1, q, k.mono t1⟩) fun q => ⟨σp, M1, Dp, t.trans t1, s.mono t1, m1, q, k.mono t1⟩⟩

/-! ### targets -/
abbrev TGp := PV → PSt → PHp → (PSt → PHp → Prop) → Prop
abbrev TGsp := List PV → PSt → PHp → (PSt → PHp → Prop) → Prop
def concG (K : Kf) (H0 : Hp) (g : TGp) : TG := fun v σ H Q => ∃ p σp M Qp, Tk K H0 H ∧ Rep K H p v ∧ RelS K H σp σ ∧ RelM K H M ∧ g p σp M Qp ∧ ∀ σ' H' σp' M', Tk K H H' → RelS K H' σp' σ' → RelM K H' M' → Qp σp' M' → Q σ' H'
def concGs (K : Kf) (H0 : Hp) (g : TGsp) : TGs := fun vs σ H Q => ∃ ps σp M Qp, Tk K H0 H ∧ Reps K H ps vs ∧ RelS K H σp σ ∧ RelM K H M ∧ g ps σp M Qp ∧ ∀ σ' H' σp' M', Tk K H H' → RelS K H' σp' σ' → RelM K H' M' → Qp σp' M' → Q σ' H'
abbrev PGp (X : Cx) (H0 : Hp) (e : Expr) (g : TGp) : Prop := PG X e (concG X.K H0 g)
abbrev PGsp (X : Cx) (H0 : Hp) (es : List Expr) (g : TGsp) : Prop := PGs X es (concGs X.K H0 g)
theorem pgW {t t' : TG} (h : PG X e t) (w : ∀ v σ H Q, t' v σ H Q → t v σ H Q) : PG X e t' := ⟨fun pins s σ H v u Q I r q => h.run pins s σ H v u Q I r (w _ _ _ _ q)⟩
theorem pgsW {t t' : TGs} (h : PGs X es t) (w : ∀ v σ H Q, t' v σ H Q → t v σ H Q) : PGs X es t' := ⟨fun pins s σ H v u Q I r q => h.run pins s σ H v u Q I r (w _ _ _ _ q)⟩
@[reducible] def gName (i : Nat) : TGp := fun v σ M Q => Q (σ.set i (some v)) M
theorem pgname {i : Nat} {x : Str} (hN : X.N.Nodup) (hi : X.N[i]? = some x := by rfl) (hx : Loc X.env.scope x := by first | exact .inl rfl | exact .inr rfl) (hf : X.fn x = true ∨ X.env.scope.names.lookup x = some .local := by first | exact .inl rfl | exact .inr rfl) : PGp X H0 (.Name x pos) (gName i) :=
  pgW (pg_name hN hi hx hf) fun v σ H Q ⟨p, σp, M, Qp, t, r, s, m, u, k⟩ => k _ _ _ _ (Tk.refl _ _) (s.set r i) m u
@[reducible] def gNil : TGsp := fun vs σ M Q => match vs with | [] => Q σ M | _ => False
@[reducible] def gCons (t : TGp) (u : TGsp) : TGsp := fun vs σ M Q => match vs with | v :: r => t v σ M fun σ' M' => u r σ' M' Q | [] => False
theorem pgsnil : PGsp X H0 [] gNil := pgsW pgs_nil fun v σ H Q ⟨p, σp, M, Qp, t, r, s, m, u, k⟩ => by
  cases r with
  | nil => exact ⟨rfl, k _ _ _ _ (Tk.refl _ _) s m u⟩
  | cons _ _ => exact u.elim
theorem pgscons {g : TGp} {gs : TGsp} (h1 : PGp X H0 e g) (h2 : PGsp X H0 es gs) (hs : (assignEach (e :: es) X.env).map (·.2) = assign e X.env :: (assignEach es X.env).map (·.2) := by rfl) : PGsp X H0 (e :: es) (gCons g gs) :=
  pgsW (pgs_cons h1 h2 hs) fun v σ H Q ⟨p, σp, M, Qp, t, r, s, m, u, k⟩ => by
    cases r with
    | nil => exact u.elim
    | cons r rr => exact ⟨_, _, rfl, _, σp, M, _, t, r, s, m, u, fun σ1 H1 σp1 M1 t1 s1 m1 u1 => ⟨_, σp1, M1, Qp, t.trans t1, rr.mono t1, s1, m1, u1, fun σ2 H2 σp2 M2 t2 => k σ2 H2 σp2 M2 (t1.trans t2)⟩⟩
@[reducible] def gTup (n : Nat) (g : TGsp) : TGp := fun v σ M Q => match v with | .tup l => l.length = n ∧ g l σ M Q | _ => False
theorem pgtup {gs : TGsp} {j : Nat} {n : Nat} (hc : X.calm = true) (h : PGsp X H0 es gs) (hn : (assignEach es X.env).length = n := by rfl) (hst : (assignEach es X.env).findIdx? (·.1) = none := by rfl) : PGp X H0 (.Tuple es j pos) (gTup n gs) :=
  pgW (pg_tup hc h hn hst) fun v σ H Q ⟨p, σp, M, Qp, t, r, s, m, u, k⟩ => by
    cases r with
    | tup h r => exact ⟨_, _, rfl, h.t, by rw [← r.length]; exact u.1, _, σp, M, Qp, t, r, s, m, u.2, k⟩
    | _ => exact u.elim
/-- xs[i] = v -/
abbrev TSetp := PV → PV → PV → PHp → (PHp → Prop) → Prop
@[reducible] def gSub (to ti : TEp) (t : TSetp) : TGp := fun v σ M Q => to σ M fun o M1 => ti σ M1 fun i M2 => t o i v M2 fun M3 => Q σ M3
def setP : TSetp := fun o i v M Q => match o, i with
  | .ref a, .int k => ∃ xs j, M a = some (.lst xs) ∧ ixN xs.length k = some j ∧ Q (updM M a (.lst (xs.set j v)))
  | _, _ => False
theorem Tk_set {H : Hp} {M : PHp} {a : Addr} {l l' : List PV} {vs vs' : List V} (m : RelM K H M) (e : H a = some (.lst vs)) (r : Reps K H l' vs') : Tk K H (upd H a (.lst vs')) ∧ RelM K (upd H a (.lst vs')) (updM M a (.lst l')) :=
  ⟨.lst e, m.put (m := .lst l') (.lst e) ⟨vs', upd_same, r.mono (.lst e)⟩⟩
theorem pgsub {o i : Expr} {to ti : TEp} (ho : PEp X H0 o to) (hi : PEp X H0 i ti)
    (ha : ∀ z, assign (.Subscript o i pos) X.env z = (do
      let zo ← holding [z] (eval o X.env); let zi ← holding [z, zo] (eval i X.env); standAt pos
      holding [z, zo, zi] (setItem zo zi z); release [z, zo, zi] []) := by intro _; rfl) : PGp X H0 (.Subscript o i pos) (gSub to ti setP) :=
  pgW (pg_sub ho hi set_list ha) fun v σ H Q ⟨p, σp, M, Qp, t, r, s, m, u, k⟩ =>
    ⟨σp, M, _, t, s, m, u, fun o H1 po M1 t1 m1 r1 u1 => ⟨σp, M1, _, t.trans t1, s.mono t1, m1, u1, fun i H2 pi M2 t2 m2 r2 u2 => by
      have ro := r1.mono t2
      cases ro with
      | ref a => cases r2 with
        | int j =>
          obtain ⟨xs, n, h1, h2, q⟩ := u2
          obtain ⟨vs, e, rv⟩ := m2 _ _ h1
          obtain ⟨tk, mm⟩ := Tk_set (l := xs) m2 e (rv.set (r.mono (t1.trans t2)) n)
          exact ⟨_, _, _, _, rfl, rfl, e, by rw [← rv.length]; exact h2, k _ _ _ _ ((t1.trans t2).trans tk) (s.mono ((t1.trans t2).trans tk)) mm q⟩
        | _ => exact u2.elim
      | _ => exact u2.elim⟩⟩
@[reducible] def tAsg (te : TEp) (g : TGp) : TSp := fun D σ M => te σ M fun x M1 => g x σ M1 D.nx
theorem psasg {tg : Expr} {g : TGp} (he : PEp X H0 e te) (hg : PGp X H0 tg g) (hs : swapsWithSole [tg] e pos.line X.env = pure false := by rfl) (hw : swappedStores [tg] e X.env = pure none := by rfl) (h1 : (assignEach [tg] X.env).map (·.2) = [assign tg X.env] := by rfl) : PSp' X H0 (.Assign [tg] e pos) (tAsg te g) :=
  psW (ps_asg he hg hs hw h1) fun D σ H ⟨σp, M, Dp, t, s, m, u, k⟩ => ⟨σp, M, _, t, s, m, u, fun v H1 p M1 t1 m1 r u1 => ⟨p, σp, M1, _, t.trans t1, r, s.mono t1, m1, u1, fun σ2 H2 σp2 M2 t2 => k.nx σ2 H2 σp2 M2 (t1.trans t2)⟩⟩
theorem psset (i : Nat) {x : Str} {pos' : Pos} (hN : X.N.Nodup) (he : PEp X H0 e te) (hi : X.N[i]? = some x := by rfl) (hx : Loc X.env.scope x := by first | exact .inl rfl | exact .inr rfl) (hs : swapsWith e (some (.Name x pos')) pos.line X.env = pure false := by rfl)
    (hf : X.fn x = true ∨ X.env.scope.names.lookup x = some .local := by first | exact .inl rfl | exact .inr rfl) : PSp' X H0 (.Assign [.Name x pos'] e pos) (tAsg te (gName i)) :=
  psW (ps_set hN hi hx he hs hf) fun D σ H ⟨σp, M, Dp, t, s, m, u, k⟩ => ⟨σp, M, _, t, s, m, u, fun v H1 p M1 t1 m1 r u1 => k.nx _ _ _ _ t1 ((s.mono t1).set r i) m1 u1⟩
/-- a, b = e1, e2 -/
@[reducible] def tPar (i j : Nat) (ta : TAp) : TSp := fun D σ M => ta σ M fun vs M1 => match vs with | [v, w] => D.nx ((σ.set i (some v)).set j (some w)) M1 | _ => False
theorem pspar (i j : Nat) {x y : Str} {a b : Expr} {px py pt : Pos} {kt k2 pt2} (hc : X.calm = true) (hN : X.N.Nodup) (ha : PAp X H0 [a, b] ta) (hi : X.N[i]? = some x := by rfl) (hj : X.N[j]? = some y := by rfl) (hij : i ≠ j := by decide)
    (p : ∀ t, PA X [a, b] t → PS X (.Assign [.Tuple [.Name x px, .Name y py] kt pt] (.Tuple [a, b] k2 pt2) pos) (L2.tPar i j t)) : PSp' X H0 (.Assign [.Tuple [.Name x px, .Name y py] kt pt] (.Tuple [a, b] k2 pt2) pos) (tPar i j ta) :=
  psW (p _ ha) fun D σ H ⟨σp, M, Dp, t, s, m, u, k⟩ => ⟨σp, M, _, t, s, m, u, fun vs H1 ps M1 t1 m1 rs u1 => by
    cases rs with
    | nil => exact u1.elim
    | cons r rr => cases rr with
      | nil => exact u1.elim
      | cons r2 rr2 => cases rr2 with
        | nil => exact ⟨_, _, rfl, k.nx _ _ _ _ t1 (((s.mono t1).set r i).set r2 j) m1 u1⟩
        | cons _ _ => exact u1.elim⟩
/-- x op= e -/
@[reducible] def tAug (i : Nat) (te : TEp) (r : R2p) : TSp := fun D σ M => match σ[i]? with | some (some x) => te σ M fun y M1 => r x y M1 fun z M2 => D.nx (σ.set i (some z)) M2 | _ => False
theorem psaug (i : Nat) {x : Str} {op : Operator} {pos' : Pos} {r : R2p} (hN : X.N.Nodup) (ho : OpP X (inplaceOp op) r) (he : PEp X H0 e te) (hi : X.N[i]? = some x := by rfl) (hx : Loc X.env.scope x := by first | exact .inl rfl | exact .inr rfl)
    (hf : X.fn x = true ∨ X.env.scope.names.lookup x = some .local := by first | exact .inl rfl | exact .inr rfl) : PSp' X H0 (.AugAssign (.Name x pos') op e pos) (tAug i te r) := by
  obtain ⟨r0, h1, h2⟩ := ho
  refine psW (ps_aug (ti := r0) hN hi hx he h1 hf) fun D σ H ⟨σp, M, Dp, t, s, m, u, k⟩ => ?_
  unfold tAug at u
  split at u
  · next p e =>
    obtain ⟨v, e1, rv⟩ := s.get e
    exact ⟨v, e1, σp, M, _, t, s, m, u, fun y H1 py M1 t1 m1 ry u1 => h2 v y H1 p py M1 _ _ (rv.mono t1) ry m1 u1 fun z H2 pz M2 t2 m2 rz q => k.nx _ _ _ _ (t1.trans t2) ((s.mono (t1.trans t2)).set rz i) m2 q⟩
  · exact u.elim
def iaddP : R2p := fun x y M Q => match x, y with
  | .int i, .int j => Q (.int (i + j)) M
  | .str a, .str b => a.length + b.length ≤ sizeLine ∧ Q (.str (a ++ b)) M
  | _, _ => False
theorem iopAdd : OpP X (inplaceOp .Add) iaddP := by
  refine ⟨_, iop_add.or iop_add_str, fun x y H px py M Q Qp rx ry m u k => ?_⟩
  cases rx with
  | int i => cases ry with
    | int j => exact .inl ⟨i, j, rfl, rfl, k _ _ _ _ (Tk.refl _ _) m (.int _) u⟩
    | _ => exact u.elim
  | str i => cases ry with
    | str j => exact .inr ⟨i, j, rfl, rfl, u.1, k _ _ _ _ (Tk.refl _ _) m (.str _) u.2⟩
    | _ => exact u.elim
  | _ => exact u.elim
theorem iopSub : OpP X (inplaceOp .Sub) subP := by
  refine ⟨_, iop_sub, fun x y H px py M Q Qp rx ry m u k => ?_⟩
  cases rx with
  | int i => cases ry with
    | int j => exact ⟨i, j, rfl, rfl, k _ _ _ _ (Tk.refl _ _) m (.int _) u⟩
    | _ => exact u.elim
  | _ => exact u.elim
def imulP : R2p := fun x y M Q => match x, y with
  | .int i, .int j => IntMulOk i j ∧ Q (.int (i * j)) M
  | _, _ => False
theorem iop_mulG : OpR X (inplaceOp .Mult) (rI IntMulOk fun i j => .int (i * j)) := opI fun _ _ _ _ _ _ _ hc q => PyProof.Rows.imul_int q hc
theorem iopMul : OpP X (inplaceOp .Mult) imulP := by
  refine ⟨_, iop_mulG, fun x y H px py M Q Qp rx ry m u k => ?_⟩
  cases rx with
  | int i => cases ry with
    | int j => exact ⟨i, j, rfl, rfl, u.1, k _ _ _ _ (Tk.refl _ _) m (.int _) u.2⟩
    | _ => exact u.elim
  | _ => exact u.elim
end
end PL

set_option Elab.async false
set_option linter.all false
set_option maxRecDepth 100000
set_option maxHeartbeats 2000000
/-! PL4: loops, comprehensions, defs and their calls. -/
namespace PL
open PySem L2
section
variable {X : Cx} {H0 : Hp} {pos : Pos} {K : Kf}
/-! ### what is walked -/
structure ItR (K : Kf) (H1 : Hp) (J : It) (items : List PV) (keep : PHp → Prop) : Prop where
  go : ∀ i H M, Tk K H1 H → RelM K H M → keep M → i < items.length → J.go i H
  yld : ∀ i H M x H', Tk K H1 H → RelM K H M → keep M → i < items.length → J.yld i H x H' → ∃ p, items[i]? = some p ∧ Rep K H' p x ∧ Tk K H H' ∧ ∀ M, RelM K H M → RelM K H' M
  stop : ∀ H M, Tk K H1 H → RelM K H M → keep M → J.stop items.length H
abbrev TIp := PSt → PHp → (List PV → (PHp → Prop) → PHp → Prop) → Prop
def concI (K : Kf) (H0 : Hp) (w : TIp) : TI := fun σ H R => ∃ σp M Rp, Tk K H0 H ∧ RelS K H σp σ ∧ RelM K H M ∧ w σp M Rp ∧ ∀ J H' items keep M', Tk K H H' → RelM K H' M' → ItR K H' J items keep → Rp items keep M' → R J H'
abbrev PIp' (X : Cx) (H0 : Hp) (tg iter : Expr) (w : TIp) : Prop := PI X tg iter (concI X.K H0 w)
theorem piW {tg iter : Expr} {t t' : TI} (h : PI X tg iter t) (w : ∀ σ H R, t' σ H R → t σ H R) : PI X tg iter t' := ⟨fun pins s σ H R I q => h.run pins s σ H R I (w _ _ _ q)⟩
theorem itr_list {H1 : Hp} {a : Addr} {l : List PV} : ItR K H1 (Itl K a) l (fun M => rdL K M a l) where
  go := fun i H M t m k hi => by
    obtain ⟨vs, e, r⟩ := k.to m
    have h2 : i < vs.length := by rw [← r.length]; exact hi
    exact ⟨vs, vs[i], e, by simp [h2]⟩
  yld := fun i H M x H' t m k hi y => by
    obtain ⟨e, y⟩ := y
    subst e
    obtain ⟨vs, e, r⟩ := k.to m
    obtain ⟨v, h2, r2⟩ := r.get (List.getElem?_eq_getElem hi)
    have := y vs e
    rw [h2] at this
    cases this
    exact ⟨_, List.getElem?_eq_getElem hi, r2, Tk.refl _ _, fun _ h => h⟩
  stop := fun H M t m k => by
    obtain ⟨vs, e, r⟩ := k.to m
    exact ⟨vs, e, by rw [r.length]; exact Nat.le_refl _⟩
theorem itr_tup {H1 : Hp} {a : Addr} {l : List PV} {vs : List V} (h : SqX K H1 a vs) (r0 : Reps K H1 l vs) : ItR K H1 (Itt K a) l (fun _ => True) where
  go := fun i H M t m k hi => by
    have h2 : i < vs.length := by rw [← r0.length]; exact hi
    exact ⟨vs, vs[i], (t _ _ h).t, by simp [h2]⟩
  yld := fun i H M x H' t m k hi y => by
    obtain ⟨e, y⟩ := y
    subst e
    obtain ⟨v, h2, r2⟩ := (r0.mono t).get (List.getElem?_eq_getElem hi)
    have := y vs (t _ _ h).t
    rw [h2] at this
    cases this
    exact ⟨_, List.getElem?_eq_getElem hi, r2, Tk.refl _ _, fun _ h => h⟩
  stop := fun H M t m k => ⟨vs, (t _ _ h).t, by rw [r0.length]; exact Nat.le_refl _⟩
def signs (z : Str) : List PV := z.cps.toList.map fun c => PV.str ⟨#[c]⟩
theorem itr_str {H1 : Hp} {z : Str} : ItR K H1 (Its z) (signs z) (fun _ => True) where
  go := fun i H M t m k hi => by
    unfold signs at hi
    rw [List.length_map] at hi
    exact hi
  yld := fun i H M x H' t m k hi y => by
    obtain ⟨e, c, h1, h2⟩ := y
    subst e; subst h2
    refine ⟨.str ⟨#[c]⟩, ?_, .str _, Tk.refl _ _, fun _ h => h⟩
    unfold signs
    rw [List.getElem?_map, Array.getElem?_toList, h1]
    rfl
  stop := fun H M t m k => by
    show z.cps.size ≤ (signs z).length
    unfold signs
    rw [List.length_map]
    exact Nat.le_refl _
/-- a value that is walked -/
def IterR (X : Cx) (tg : Expr) (wi : V → Hp → (It → Hp → Prop) → Prop) : Prop := ∀ (pins : List (Addr × Obj)) (s : Shared) (σ : L2.St) (H : Hp) (R : It → Hp → Prop) (x : V) (v : Value), Inv X pins σ H s → RelV x v → wi x H R →
  wpAny (model X.prog X.w) X.A (pyIter v) (PIE X pins σ tg R) X.xe s
theorem ir_list {tg : Expr} : IterR X tg (fun x H R => ∃ a, x = .ref a ∧ (∃ xs, SqL X.K H a xs) ∧ R (Itl X.K a) H) := by
  rintro pins t σ G R y v I rel ⟨a, rfl, ⟨_, there⟩, q⟩
  cases rel
  obtain ⟨_, _, plain, _⟩ := I.list there
  exact wpAny_pyIter_list plain.isList (pi_one (tk := t.toks) I _ (turn_list a _) ⟨_, Heap.get?_push_size _ rfl, rfl, rfl⟩ q)
theorem ir_tup {tg : Expr} : IterR X tg (fun x H R => ∃ a, x = .ref a ∧ (∃ xs, SqT X.K H a xs) ∧ R (Itt X.K a) H) := by
  rintro pins t σ G R y v I rel ⟨a, rfl, ⟨_, there⟩, q⟩
  cases rel
  obtain ⟨_, _, plain, _⟩ := I.tuple there
  exact wpAny_pyIter_tuple plain (pi_one (tk := t.toks) I _ (turn_tuple a _) ⟨_, Heap.get?_push_size _ rfl, rfl, rfl⟩ q)
theorem ir_str {tg : Expr} : IterR X tg (fun v H R => ∃ x, v = .str x ∧ R (Its x) H) := by
  rintro pins t σ G R y v I rel ⟨z, rfl, q⟩
  obtain ⟨tk, rfl⟩ := rel
  by_cases small : z.cps.all (· < 128) = true
  · exact wpAny_pyIter_ascii small (pi_one (tk := t.toks) I _ (turn_str _ z tk _ (.inl rfl)) ⟨_, Heap.get?_push_size _ rfl, rfl, rfl⟩ q)
  · exact wpAny_pyIter_wide (Bool.not_eq_true _ ▸ small) (pi_one (tk := t.toks) I _ (turn_str _ z tk _ (.inr rfl)) ⟨_, Heap.get?_push_size _ rfl, rfl, rfl⟩ q)
/-- over a list, a tuple, a text -/
@[reducible] def iSeq (K : Kf) (te : TEp) : TIp := fun σ M R => te σ M fun x M1 => match x with
  | .tup l => R l (fun _ => True) M1
  | .ref a => ∃ l, rdL K M1 a l ∧ R l (fun M => rdL K M a l) M1
  | .str z => R (signs z) (fun _ => True) M1
  | _ => False
theorem piseq {tg e : Expr} {te : TEp} (h : PEp X H0 e te) : PIp' X H0 tg e (iSeq X.K te) := by
  refine ⟨fun pins s σ H R I q => ?_⟩
  obtain ⟨σp, M, Rp, t, s0, m, u, k⟩ := q
  refine thn (h.run pins s σ H (fun x H1 => ∃ px M1, Tk X.K H H1 ∧ RelM X.K H1 M1 ∧ Rep X.K H1 px x ∧ (match px with
      | .tup l => Rp l (fun _ => True) M1
      | .ref a => ∃ l, rdL X.K M1 a l ∧ Rp l (fun M => rdL X.K M a l) M1
      | .str z => Rp (signs z) (fun _ => True) M1
      | _ => False)) I ⟨σp, M, _, t, s0, m, u, fun x H1 px M1 t1 m1 rx u1 => ⟨px, M1, t1, m1, rx, u1⟩⟩) fun v s1 z => ?_
  obtain ⟨x, H1, I1, rv, px, M1, t1, m1, rx, u1⟩ := z
  cases rx with
  | tup h r => exact ir_tup pins s1 σ H1 R _ v I1 rv ⟨_, rfl, ⟨_, h.t⟩, k _ _ _ _ _ t1 m1 (itr_tup h r) u1⟩
  | ref a =>
    obtain ⟨l, hl, q⟩ := u1
    obtain ⟨vs, e, r⟩ := hl.to m1
    exact ir_list pins s1 σ H1 R _ v I1 rv ⟨_, rfl, ⟨_, e⟩, k _ _ _ _ _ t1 m1 itr_list q⟩
  | str z => exact ir_str pins s1 σ H1 R _ v I1 rv ⟨_, rfl, k _ _ _ _ _ t1 m1 itr_str u1⟩
  | _ => exact u1.elim
/-- range(n), range(a, b) -/
def rng (lo : Int) (n : Nat) : List PV := (List.range n).map fun (i : Nat) => PV.int (lo + (i : Int))
theorem rng_len (lo : Int) (n : Nat) : (rng lo n).length = n := by unfold rng; simp
theorem rng_get {lo : Int} {n i : Nat} {p : PV} (h : (rng lo n)[i]? = some p) : i < n ∧ p = .int (lo + (i : Int)) := by
  unfold rng at h
  rw [List.getElem?_map] at h
  by_cases hi : i < n
  · rw [List.getElem?_range hi] at h
    exact ⟨hi, (Option.some.inj h).symm⟩
  · rw [List.getElem?_eq_none (by simp; omega)] at h
    cases h
theorem itr_rng {H1 : Hp} {lo : Int} {n : Nat} : ItR K H1 (Itr lo n) (rng lo n) (fun _ => True) where
  go := fun i H M t m k hi => by rw [rng_len] at hi; exact hi
  yld := fun i H M x H' t m k hi y => by
    rw [rng_len] at hi
    obtain ⟨e, y⟩ := y
    subst e; subst y
    exact ⟨.int (lo + (i : Int)), by unfold rng; rw [List.getElem?_map, List.getElem?_range hi]; rfl, .int _, Tk.refl _ _, fun _ h => h⟩
  stop := fun H M t m k => by rw [rng_len]; exact Nat.le_refl _
@[reducible] def iRng1 (ta : TAp) : TIp := fun σ M R => ta σ M fun vs M1 => match vs with
  | [.int j] => (-(2 ^ 62) ≤ j ∧ j < 2 ^ 62) ∧ R (rng 0 j.toNat) (fun _ => True) M1
  | _ => False
@[reducible] def iRng2 (ta : TAp) : TIp := fun σ M R => ta σ M fun vs M1 => match vs with
  | [.int i, .int j] => (-(2 ^ 62) ≤ i ∧ i < 2 ^ 62 ∧ -(2 ^ 62) ≤ j ∧ j < 2 ^ 62) ∧ R (rng i (j - i).toNat) (fun _ => True) M1
  | _ => False
theorem pirng1 {tg a : Expr} {ta : TAp} {p : Pos} (hg : Gl X "range") (hm : X.mg "range" = none) (ha : PAp X H0 [a] ta) (hs : starEach [a] X.env = [(false, eval a X.env)] := by rfl) : PIp' X H0 tg (.Call (.Name "range" p) [a] [] pos) (iRng1 ta) :=
  piW (pi_range1 hg hm ha hs) fun σ H R ⟨σp, M, Rp, t, s, m, u, k⟩ => ⟨σp, M, _, t, s, m, u, fun vs H1 ps M1 t1 m1 rs u1 => by
    cases rs with
    | nil => exact u1.elim
    | cons r rr => cases rr with
      | nil => cases r with
        | int j => exact ⟨j, rfl, u1.1.1, u1.1.2, k _ _ _ _ _ t1 m1 itr_rng u1.2⟩
        | _ => exact u1.elim
      | cons r2 rr2 => cases r <;> exact u1.elim⟩
theorem pirng2 {tg a b : Expr} {ta : TAp} {p : Pos} (hg : Gl X "range") (hm : X.mg "range" = none) (ha : PAp X H0 [a, b] ta) (hs : starEach [a, b] X.env = [(false, eval a X.env), (false, eval b X.env)] := by rfl) (hs2 : starEach [b] X.env = [(false, eval b X.env)] := by rfl) : PIp' X H0 tg (.Call (.Name "range" p) [a, b] [] pos) (iRng2 ta) :=
  piW (pi_range2 hg hm ha hs hs2) fun σ H R ⟨σp, M, Rp, t, s, m, u, k⟩ => ⟨σp, M, _, t, s, m, u, fun vs H1 ps M1 t1 m1 rs u1 => by
    cases rs with
    | nil => exact u1.elim
    | cons r rr => cases rr with
      | nil => cases r <;> exact u1.elim
      | cons r2 rr2 => cases rr2 with
        | nil => cases r with
          | int i => cases r2 with
            | int j => exact ⟨i, j, rfl, u1.1, k _ _ _ _ _ t1 m1 itr_rng u1.2⟩
            | _ => exact u1.elim
          | _ => cases r2 <;> exact u1.elim
        | cons _ _ => cases r <;> cases r2 <;> exact u1.elim⟩

/-! ### for, while -/
/-- some slots forgotten, some objects let go -/
def Nx (P : PSt → PHp → Prop) : PSt → PHp → Prop := fun σ M => ∃ σ0 M0, SubS σ0 σ ∧ Sub M0 M ∧ P σ0 M0
theorem Nx.of {P : PSt → PHp → Prop} {σ : PSt} {M : PHp} (h : P σ M) : Nx P σ M := ⟨σ, M, .refl _, .refl _, h⟩
@[reducible] def tFor (wi : TIp) (g : TGp) (tb : TSp) : TSp := fun D σ M => wi σ M fun items keep M1 => ∃ I : Nat → PSt → PHp → Prop, Nx (I 0) σ M1 ∧ (∀ i σ M, I i σ M → keep M) ∧
  (∀ i x σ M, items[i]? = some x → I i σ M → g x σ M fun σ2 M2 => tb { nx := Nx (I (i + 1)), ct := Nx (I (i + 1)), bk := D.nx, rt := D.rt } σ2 M2) ∧ ∀ σ M, I items.length σ M → D.nx σ M
theorem psfor {iter tg : Expr} {body : List Stmt} {wi : TIp} {g : TGp} {tb : TSp} (hp : PassesOwn (model X.prog X.w) X.A X.env X.xe) (hc : X.calm = true) (hi : PIp' X H0 tg iter wi) (hg : PGp X H0 tg g) (hb : PSsp X H0 body tb) (hs : ∀ x, foldedSetIterable iter X.env x = pure x := by intro _; rfl) :
    PSp' X H0 (.For tg iter body [] pos) (tFor wi g tb) := by
  refine psW (ps_for hp hc hi hg hb hs) fun D σ H ⟨σp, M, Dp, t, s, m, u, k⟩ => ⟨σp, M, _, t, s, m, u, fun J H1 items keep M1 t1 m1 it u1 => ?_⟩
  obtain ⟨I, h0, hk, hs, hd⟩ := u1
  obtain ⟨σ00, M00, ss0, sm0, h0⟩ := h0
  refine ⟨fun i n σ' H' => n = items.length - i ∧ i ≤ items.length ∧ ∃ σq Mq, Tk X.K H1 H' ∧ RelS X.K H' σq σ' ∧ RelM X.K H' Mq ∧ I i σq Mq, ⟨_, rfl, Nat.zero_le _, σ00, M00, Tk.refl _ _, (s.mono t1).sub ss0, m1.sub sm0, h0⟩, ?_⟩
  rintro i n σ' H' ⟨rfl, hi, σq, Mq, tq, sq, mq, hI⟩
  by_cases hlt : i < items.length
  · refine .inr ⟨it.go i H' Mq tq mq (hk _ _ _ hI) hlt, fun σ2 H2 => i + 1 ≤ items.length ∧ ∃ σq Mq, Tk X.K H1 H2 ∧ RelS X.K H2 σq σ2 ∧ RelM X.K H2 Mq ∧ I (i + 1) σq Mq, fun σ2 H2 h => ⟨items.length - (i + 1), by omega, rfl, h.1, h.2⟩, fun x H2 y => ?_⟩
    obtain ⟨p, e1, r1, t2, mm⟩ := it.yld i H' Mq x H2 tq mq (hk _ _ _ hI) hlt y
    refine ⟨p, σq, Mq, _, t.trans (t1.trans (tq.trans t2)), r1, sq.mono t2, mm _ mq, hs i p σq Mq e1 hI, fun σ3 H3 σp3 M3 t3 s3 m3 u3 => ?_⟩
    refine ⟨σp3, M3, _, t.trans (t1.trans (tq.trans (t2.trans t3))), s3, m3, u3, ⟨fun σ4 H4 σp4 M4 t4 s4 m4 u4 => ?_, fun v H4 p4 M4 t4 => k.rt v H4 p4 M4 (t1.trans (tq.trans (t2.trans (t3.trans t4)))), fun σ4 H4 p4 M4 t4 => k.nx σ4 H4 p4 M4 (t1.trans (tq.trans (t2.trans (t3.trans t4)))), fun σ4 H4 σp4 M4 t4 s4 m4 u4 => ?_⟩⟩
    all_goals
      obtain ⟨σ0, M0, ss, sm, hI2⟩ := u4
      exact ⟨hlt, σ0, M0, tq.trans (t2.trans (t3.trans t4)), s4.sub ss, m4.sub sm, hI2⟩
  · have e : i = items.length := by omega
    subst e
    exact .inl ⟨it.stop H' Mq tq mq (hk _ _ _ hI), k.nx _ _ _ _ (t1.trans tq) sq mq (hd _ _ hI)⟩
@[reducible] def tWhile (c : TTp) (tb : TSp) : TSp := fun D σ M => ∃ W : Nat → PSt → PHp → Prop, (∃ n, Nx (W n) σ M) ∧ ∀ n σ M, W n σ M →
  c σ M fun b M1 => br b (tb { nx := fun σ' M' => ∃ n', n' < n ∧ Nx (W n') σ' M', ct := fun σ' M' => ∃ n', n' < n ∧ Nx (W n') σ' M', bk := D.nx, rt := D.rt } σ M1) (D.nx σ M1)
theorem pswhile {c : Expr} {body : List Stmt} {tc : TTp} {tb : TSp} (hp : PassesOwn (model X.prog X.w) X.A X.env X.xe) (hc : PTp X H0 c tc) (hb : PSsp X H0 body tb) : PSp' X H0 (.While c body [] pos) (tWhile tc tb) := by
  refine psW (ps_while hp hc hb) fun D σ H ⟨σp, M, Dp, t, s, m, u, k⟩ => ?_
  obtain ⟨W, ⟨n0, h0⟩, hs⟩ := u
  obtain ⟨σ00, M00, ss0, sm0, h0⟩ := h0
  refine ⟨fun n σ' H' => ∃ σq Mq, Tk X.K H H' ∧ RelS X.K H' σq σ' ∧ RelM X.K H' Mq ∧ W n σq Mq, ⟨n0, σ00, M00, Tk.refl _ _, s.sub ss0, m.sub sm0, h0⟩, ?_⟩
  rintro n σ' H' ⟨σq, Mq, tq, sq, mq, hW⟩
  refine ⟨σq, Mq, _, t.trans tq, sq, mq, hs n σq Mq hW, fun b H2 M2 t2 m2 u2 => br_imp u2 (fun q => ?_) fun q => k.nx _ _ _ _ (tq.trans t2) (sq.mono t2) m2 q⟩
  refine ⟨fun σ3 H3 => ∃ n', n' < n ∧ ∃ σq Mq, Tk X.K H H3 ∧ RelS X.K H3 σq σ3 ∧ RelM X.K H3 Mq ∧ W n' σq Mq, fun σ3 H3 h => h, σq, M2, _, t.trans (tq.trans t2), sq.mono t2, m2, q, ⟨fun σ4 H4 σp4 M4 t4 s4 m4 u4 => ?_, fun v H4 p4 M4 t4 => k.rt v H4 p4 M4 (tq.trans (t2.trans t4)), fun σ4 H4 p4 M4 t4 => k.nx σ4 H4 p4 M4 (tq.trans (t2.trans t4)), fun σ4 H4 σp4 M4 t4 s4 m4 u4 => ?_⟩⟩
  all_goals
    obtain ⟨n', hn, σ0, M0, ss, sm, h2⟩ := u4
    exact ⟨n', hn, σ0, M0, tq.trans (t2.trans t4), s4.sub ss, m4.sub sm, h2⟩

/-! ### defs and their calls -/
abbrev PSpec := List PV → PHp → PVK → PXK → Prop
def concF (K : Kf) (psp : PSpec) : Sp := fun vs H Q E => ∃ ps M Qp Ep, Reps K H ps vs ∧ RelM K H M ∧ psp ps M Qp Ep ∧ (∀ v H' p M', Tk K H H' → RelM K H' M' → Rep K H' p v → Qp p M' → Q v H') ∧ ∀ cls d H' M', Tk K H H' → RelM K H' M' → Ep cls d M' → E cls d H'
/-- a def that may be called -/
structure Callee (P : Program) (w : World) (K : Kf) (mg : Str → Option Value) (base : Heap) (k : Nat) (x : Str) (ps : List Str) (psp : PSpec) : Prop where
  ex : ∃ f fd, FnOk P w K mg base CX0 k f fd ps (concF K psp) ∧ mg x = some (.ref f) ∧ PySem.W.keepIn K (.ref f) = true ∧ Binds K fd ps []
theorem Callee.mono {P : Program} {w : World} {mg : Str → Option Value} {base : Heap} {j k : Nat} {x : Str} {ps : List Str} {psp : PSpec} (h : Callee P w K mg base j x ps psp) (l : j ≤ k) : Callee P w K mg base k x ps psp := by
  obtain ⟨f, fd, F, r⟩ := h.ex
  exact ⟨⟨f, fd, F.mono l, r⟩⟩
theorem Callee.imp {P : Program} {w : World} {mg : Str → Option Value} {base : Heap} {k : Nat} {x : Str} {ps : List Str} {psp psp' : PSpec} (h : Callee P w K mg base k x ps psp) (l : ∀ vs M Q E, psp' vs M Q E → psp vs M Q E) : Callee P w K mg base k x ps psp' := by
  obtain ⟨f, fd, F, r⟩ := h.ex
  exact ⟨⟨f, fd, F.imp fun vs H Q E ⟨ps, M, Qp, Ep, h1, h2, h3, h4⟩ => ⟨ps, M, Qp, Ep, h1, h2, l _ _ _ _ h3, h4⟩, r⟩⟩
@[reducible] def tCall (psp : PSpec) (ta : TAp) : TEp := fun σ M Q => ta σ M fun ps M1 => psp ps M1 Q fun _ _ _ => False
variable {e : Expr} {es : List Expr} {te : TEp} {ta : TAp}
theorem call_conc {psp : PSpec} {σ : L2.St} {H : Hp} {Q : VK} (h : concE K H0 (tCall psp ta) σ H Q) : L2.tCall (concF K psp) [] E0 (concA K H0 ta) σ H Q := by
  obtain ⟨σp, M, Qp, t, s, m, u, k⟩ := h
  refine ⟨σp, M, _, t, s, m, u, fun vs H1 ps M1 t1 m1 rs u1 => ?_⟩
  show concF K psp (vs ++ []) H1 Q E0
  rw [List.append_nil]
  exact ⟨ps, M1, Qp, _, rs, m1, u1, fun v H2 p M2 t2 => k v H2 p M2 (t1.trans t2), fun _ _ _ _ _ _ z => z⟩
theorem pcall {k : Nat} {x : Str} {ps : List Str} {psp : PSpec} {p : Pos} (C : Callee X.prog X.w X.K X.mg X.base k x ps psp) (hr : Room k X.A) (ha : PAp X H0 (e :: es) ta) (hg : Gl X x := by rfl) (hd : (x == ("__debug__" : Str)) = false := by decide)
    (he : starEach (e :: es) X.env = (false, eval e X.env) :: starEach es X.env := by rfl) (hpl : (backTo pos (starEach es X.env)).any (·.1) = false := by rfl) : PEp X H0 (.Call (.Name x p) (e :: es) [] pos) (tCall psp ta) := by
  obtain ⟨f, fd, F, hm, hk, hb⟩ := C.ex
  exact peW (pe_call F hr hg hm hk hb .nil pass0 ha hd he hpl) fun σ H Q h => call_conc h
theorem pcall0 {k : Nat} {x : Str} {psp : PSpec} {p : Pos} (C : Callee X.prog X.w X.K X.mg X.base k x [] psp) (hr : Room k X.A) (hg : Gl X x := by rfl) (hd : (x == ("__debug__" : Str)) = false := by decide) : PEp X H0 (.Call (.Name x p) [] [] pos) (tCall psp tNil) := by
  obtain ⟨f, fd, F, hm, hk, hb⟩ := C.ex
  refine peW (pe_call0 F hr hg hm hk hb .nil pass0 hd) fun σ H Q ⟨σp, M, Qp, t, s, m, u, k⟩ => ?_
  exact ⟨[], M, Qp, _, .nil, m, u, k, fun _ _ _ _ _ _ z => z⟩
/-- where a def of the text stands -/
structure Here (K : Kf) (mg : Str → Option Value) (x : Str) (st : Stmt) (ps : List Str) : Prop where
  ex : ∃ f fd, Fun K x x st f fd ∧ mg x = some (.ref f) ∧ Binds K fd ps []
def startP (N : List Str) (vs : List PV) : PSt := vs.map some ++ List.replicate (N.length - vs.length) none
theorem startP_rel {H : Hp} : ∀ {ps : List PV} {vs : List V}, Reps K H ps vs → ∀ N : List Str, RelS K H (startP N ps) (L2.start N vs) := by
  intro ps vs r N
  unfold startP L2.start
  rw [r.length]
  have tail : ∀ n : Nat, RelS K H (List.replicate n none) (List.replicate n none) := fun n => by
    induction n with
    | zero => exact .nil
    | succ n ih => exact .no ih
  generalize N.length - vs.length = n
  induction r using Reps.rec (motive_1 := fun _ _ _ => True) with
  | nil => exact tail n
  | cons a b _ ih => exact .yes a ih
  | _ => trivial
def ends (Q : PVK) : PEnds := { nx := fun _ M' => ∃ M0, Sub M0 M' ∧ Q .non M0, rt := fun v M' => ∃ M0, Sub M0 M' ∧ Q v M0 }
abbrev defCx (P : Program) (w : World) (K : Kf) (mg : Str → Option Value) (base : Heap) (N : List Str) (x : Str) (st : Stmt) (f : Addr) (cdv : Value) (A : Around) (outer : List Env) (s : Shared) (H : Hp) (E : XK) : Cx :=
  (cxOf CX0 P w K mg base N x (defScope st) f cdv A outer s H E).nox
theorem ok_of {P : Program} {w : World} {mg : Str → Option Value} {base : Heap} {k : Nat} {x : Str} {st : Stmt} {N ps : List Str} {psp : PSpec} (h : Here K mg x st ps) (S : FnScope N ps (defScope st)) (len : ∀ vs M Q E, psp vs M Q E → vs.length = ps.length)
    (body : ∀ f cdv A outer s H E, Room k (defCx P w K mg base N x st f cdv A outer s H E).A → ∃ t, PSsp (defCx P w K mg base N x st f cdv A outer s H E) H (defBody st) t ∧ ∀ vs M Q Ep, psp vs M Q Ep → t (ends Q) (startP N vs) M) :
    Callee P w K mg base (k + 1) x ps psp := by
  obtain ⟨f, fd, F, hm, hb⟩ := h.ex
  refine ⟨⟨f, fd, F.ok S (fun vs H Q E h => ?_) (fun cdv A outer s H vs Q E hr h => ?_), hm, F.kp, hb⟩⟩
  · obtain ⟨qs, M, Qp, Ep, r, m, u, _⟩ := h
    rw [← r.length]
    exact len _ _ _ _ u
  · obtain ⟨qs, M, Qp, Ep, r, m, u, k1, k2⟩ := h
    obtain ⟨t, d, b⟩ := body f cdv A outer s H E hr
    refine ⟨_, d, startP N qs, M, ends Qp, Tk.refl _ _, startP_rel r N, m, b _ _ _ _ u, ⟨fun σ' H' σp' M' t1 s1 m1 q => ?_, fun v H' p M' t1 m1 r1 q => ?_, fun _ _ _ _ _ _ _ z => z.elim, fun _ _ _ _ _ _ _ z => z.elim⟩⟩
    · obtain ⟨M0, sb, q⟩ := q
      exact k1 _ _ _ _ t1 (m1.sub sb) .non q
    · obtain ⟨M0, sb, q⟩ := q
      exact k1 _ _ _ _ t1 (m1.sub sb) r1 q
end
end PL

set_option Elab.async false
set_option linter.all false
set_option maxRecDepth 100000
set_option maxHeartbeats 2000000
/-! PL5: comprehensions, max, methods of lists. -/
namespace PL
open PySem L2
section
variable {X : Cx} {H0 : Hp} {pos : Pos} {K : Kf}
/-! ### comprehensions -/
def wipeP (σ : PSt) : List Nat → PSt
  | [] => σ
  | i :: r => (wipeP σ r).set i none
theorem RelS.wipe1 {H : Hp} : ∀ {σ : PSt} {τ : L2.St} (i : Nat), RelS K H σ τ → RelS K H (σ.set i none) (τ.set i none)
  | _, _, _, .nil => .nil
  | _, _, 0, .no t => .no t
  | _, _, 0, .yes _ t => .no t
  | _, _, i + 1, .no t => .no (RelS.wipe1 i t)
  | _, _, i + 1, .yes q t => .yes q (RelS.wipe1 i t)
theorem RelS.wipe {H : Hp} {σ : PSt} {τ : L2.St} (s : RelS K H σ τ) : ∀ vs : List Nat, RelS K H (wipeP σ vs) (L2.wipe τ vs)
  | [] => s
  | i :: r => (RelS.wipe s r).wipe1 i
/-- the tests of a comprehension -/
abbrev PTsp (X : Cx) (H0 : Hp) (ifs : List Expr) (u : TTp) : Prop := PTs X ifs (concT X.K H0 u)
@[reducible] def tYes : TTp := fun _ M Q => Q true M
theorem ptsnil : PTsp X H0 [] tYes := ⟨fun pins s σ H Q I ⟨_, M, _, _, _, m, u, k⟩ => pts_nil.run pins s σ H Q I (k true H M (Tk.refl _ _) m u)⟩
theorem ptsone {c : Expr} {t : TTp} (h : PTp X H0 c t) : PTsp X H0 [c] t := pts_one h
/-- what a turn gives: Dl the list that grows -/
@[reducible] def LcTurn (vs : List Nat) (σ0 : PSt) (tt : TTp) (te : TEp) (Dl : Addr) (acc : List PV) (I : List PV → PHp → Prop) : PSt → PHp → Prop := fun σ2 M2 => tt σ2 M2 fun b M3 => br b (te σ2 M3 fun y M4 => M4 Dl = some (.lst acc) ∧ acc.length < sizeLine ∧ ∃ M5, Sub M5 (updM M4 Dl (.lst (acc ++ [y]))) ∧ I (acc ++ [y]) M5) (∃ M5, Sub M5 M3 ∧ I acc M5)
/-- I: by the turn, the list so far and the heap; the list stands at Dl -/
@[reducible] def tLc1 (wi : TIp) (j : Nat) (tt : TTp) (te : TEp) (vs : List Nat) : TEp := fun σ M Q => wi σ M fun items keep M1 => ∀ Dl, M1 Dl = none → ∃ I : Nat → List PV → PHp → Prop, (∃ M5, Sub M5 (updM M1 Dl (.lst [])) ∧ I 0 [] M5) ∧
  (∀ i acc M, I i acc M → keep M) ∧ (∀ i x acc M, items[i]? = some x → I i acc M → LcTurn vs σ tt te Dl acc (I (i + 1)) ((wipeP σ vs).set j (some x)) M) ∧ ∀ acc M, I items.length acc M → Q (.ref Dl) M
theorem wipe_set (σ : L2.St) (j : Nat) (x : Option V) : ∀ vs : List Nat, j ∈ vs → L2.wipe (σ.set j x) vs = L2.wipe σ vs
  | [], h => by cases h
  | i :: r, h => by
    show (L2.wipe (σ.set j x) r).set i none = (L2.wipe σ r).set i none
    by_cases hj : j ∈ r
    · rw [wipe_set σ j x r hj]
    · have e : j = i := by rcases List.mem_cons.mp h with h | h; exact h; exact absurd h hj
      subst e
      have key : ∀ (r : List Nat) (σ : L2.St), j ∉ r → L2.wipe (σ.set j x) r = (L2.wipe σ r).set j x := by
        intro r
        induction r with
        | nil => intro σ _; rfl
        | cons a r ih =>
          intro σ hn
          have n1 : j ≠ a := fun q => hn (q ▸ List.mem_cons_self)
          have n2 : j ∉ r := fun q => hn (List.mem_cons_of_mem _ q)
          show (L2.wipe (σ.set j x) r).set a none = ((L2.wipe σ r).set a none).set j x
          rw [ih σ n2, List.set_comm _ _ n1]
      rw [key r σ hj, List.set_set]
theorem wipe_wipe (σ : L2.St) (vs : List Nat) : L2.wipe (L2.wipe σ vs) vs = L2.wipe σ vs := by
  apply List.ext_getElem?
  intro i
  by_cases hi : i ∈ vs
  · have h : ∀ (τ : L2.St), τ.length = σ.length → (L2.wipe τ vs)[i]? = if i < σ.length then some none else none := by
      intro τ hτ
      have key : ∀ (r : List Nat), i ∈ r → (L2.wipe τ r)[i]? = if i < τ.length then some none else none := by
        intro r
        induction r with
        | nil => intro h; cases h
        | cons a r ih =>
          intro h
          show ((L2.wipe τ r).set a none)[i]? = _
          rw [List.getElem?_set, L2.wipe_length]
          by_cases e : a = i
          · subst e; rw [if_pos rfl]
          · rw [if_neg e]
            exact ih (by rcases List.mem_cons.mp h with q | q; exact absurd q.symm e; exact q)
      rw [key vs hi, hτ]
    rw [h _ (L2.wipe_length σ vs), h σ rfl]
  · rw [L2.wipe_out hi]
/-- one name for the target -/
theorem lc1_conc {j : Nat} {vs : List Nat} {wi : TIp} {tt : TTp} {te : TEp} (hj : j ∈ vs) {σ : L2.St} {H : Hp} {Q : VK} (h : concE K H0 (tLc1 wi j tt te vs) σ H Q) :
    L2.tLc (concI K H0 wi) (L2.gName j) (concT K H0 tt) (concE K H0 te) vs σ H Q := by
  obtain ⟨σp, M, Qp, t, s, m, u, k⟩ := h
  refine ⟨σp, M, _, t, s, m, u, fun J H1 items keep M1 t1 m1 it u1 Dl hD => ?_⟩
  obtain ⟨I, ⟨M50, sb0, h0⟩, hk, hs, hd⟩ := u1 Dl (m1.fresh hD)
  have tn : Tk K H1 (upd H1 Dl (.lst [])) := .new hD
  have mn : RelM K (upd H1 Dl (.lst [])) (updM M1 Dl (.lst [])) := m1.put (m := .lst []) tn ⟨[], upd_same, .nil⟩
  refine ⟨fun i n H' => n = items.length - i ∧ i ≤ items.length ∧ ∃ acc Mq, Tk K H1 H' ∧ RelM K H' Mq ∧ I i acc Mq, ⟨_, rfl, Nat.zero_le _, [], M50, tn, mn.sub sb0, h0⟩, ?_⟩
  rintro i n H' ⟨rfl, hi, acc, Mq, tq, mq, hI⟩
  by_cases hlt : i < items.length
  · refine .inr ⟨it.go i H' Mq tq mq (hk _ _ _ hI) hlt, fun H2 => i + 1 ≤ items.length ∧ ∃ acc Mq, Tk K H1 H2 ∧ RelM K H2 Mq ∧ I (i + 1) acc Mq, fun H2 h => ⟨items.length - (i + 1), by omega, rfl, h.1, h.2⟩, fun x H2 y => ?_⟩
    obtain ⟨p, e1, r1, t2, mm⟩ := it.yld i H' Mq x H2 tq mq (hk _ _ _ hI) hlt y
    have hw : L2.wipe ((L2.wipe σ vs).set j (some x)) vs = L2.wipe σ vs := by
      rw [wipe_set _ _ _ _ hj, wipe_wipe]
    refine ⟨hw, (wipeP σp vs).set j (some p), Mq, _, t.trans (t1.trans (tq.trans t2)), ((s.mono (t1.trans (tq.trans t2))).wipe _).set r1 j, mm _ mq, hs i p acc Mq e1 hI, fun b H3 M3 t3 m3 u3 => br_imp u3 (fun q => ?_) fun q => ?_⟩
    · refine ⟨_, M3, _, t.trans (t1.trans (tq.trans (t2.trans t3))), ((s.mono (t1.trans (tq.trans (t2.trans t3)))).wipe _).set (r1.mono t3) j, m3, q, fun v H4 p4 M4 t4 m4 r4 q4 => ?_⟩
      obtain ⟨q1, q2, M5, sb, q5⟩ := q4
      obtain ⟨vs4, e4, r5⟩ := m4 _ _ q1
      obtain ⟨tk, m6⟩ := Tk_set (l := acc) m4 e4 (r5.snoc r4)
      exact ⟨vs4, e4, by rw [← r5.length]; exact q2, hlt, _, M5, tq.trans (t2.trans (t3.trans (t4.trans tk))), m6.sub sb, q5⟩
    · obtain ⟨M5, sb, q5⟩ := q
      exact ⟨hlt, _, M5, tq.trans (t2.trans t3), m3.sub sb, q5⟩
  · have e : i = items.length := by omega
    subst e
    exact .inl ⟨it.stop H' Mq tq mq (hk _ _ _ hI), k _ _ _ _ (t1.trans tq) mq (.ref Dl) (hd _ _ hI)⟩
section
variable {elt iter : Expr} {x : Str} {xpos : Pos} {ifs : List Expr} {scope : Scope} {own : List (Str × Nat)} {wi : TIp} {tt : TTp} {te : TEp}
theorem plc1 (j : Nat) (hc : X.calm = true) (hN : X.N.Nodup) (hi : PIp' X H0 (.Name x xpos) iter wi) (ok : BlkOk X.N X.env.scope scope own) (hj : j ∈ own.map (·.2))
    (hg : ∀ (s : Shared) (H : Hp) (C : Addr) (cl : List (Str × Addr)) (fp : List Addr), PG (X.blk s H scope (compEnvC scope cl C X.env) fp) (.Name x xpos) (L2.gName j))
    (ht : ∀ (s : Shared) (H : Hp) (C : Addr) (cl : List (Str × Addr)) (fp : List Addr), PTsp (X.blk s H scope (compEnvC scope cl C X.env) fp) H0 ifs tt)
    (he : ∀ (s : Shared) (H : Hp) (C : Addr) (cl : List (Str × Addr)) (fp : List Addr), PEp (X.blk s H scope (compEnvC scope cl C X.env) fp) H0 elt te) (hs : ∀ x, foldedSetIterable iter X.env x = pure x := by intro _; rfl) :
    PEp X H0 (.ListComp elt [⟨.Name x xpos, iter, ifs, 0⟩] scope pos) (tLc1 wi j tt te (own.map (·.2))) :=
  peW (pe_lc (tt := concT X.K H0 tt) (te := concE X.K H0 te) hc hN hi ok hg ht he hs) fun σ H Q h => lc1_conc hj h
/-- y = [..] on one line -/
theorem pssetlc1 (i j : Nat) {y : Str} {py spos : Pos} (hc : X.calm = true) (hN : X.N.Nodup) (hyl : X.env.scope.names.lookup y = some .local)
    (hsw : swapsWith (.ListComp elt [⟨.Name x xpos, iter, ifs, 0⟩] scope pos) (some (.Name y py)) spos.line X.env = pure true) (hi : PIp' X H0 (.Name x xpos) iter wi) (ok : BlkOk X.N X.env.scope scope own) (hj : j ∈ own.map (·.2))
    (hg : ∀ (s : Shared) (H : Hp) (C : Addr) (cl : List (Str × Addr)) (fp : List Addr), PG (X.blk s H scope (compEnvC scope cl C X.env) fp) (.Name x xpos) (L2.gName j))
    (ht : ∀ (s : Shared) (H : Hp) (C : Addr) (cl : List (Str × Addr)) (fp : List Addr), PTsp (X.blk s H scope (compEnvC scope cl C X.env) fp) H0 ifs tt)
    (he : ∀ (s : Shared) (H : Hp) (C : Addr) (cl : List (Str × Addr)) (fp : List Addr), PEp (X.blk s H scope (compEnvC scope cl C X.env) fp) H0 elt te) (hy : X.N[i]? = some y := by rfl) (hs : ∀ x, foldedSetIterable iter X.env x = pure x := by intro _; rfl) :
    PSp' X H0 (.Assign [.Name y py] (.ListComp elt [⟨.Name x xpos, iter, ifs, 0⟩] scope pos) spos) (tAsg (tLc1 wi j tt te (own.map (·.2))) (gName i)) :=
  psW (ps_setLc (tt := concT X.K H0 tt) (te := concE X.K H0 te) hc hN hy hyl hsw hi ok hg ht he hs) fun D σ H ⟨σp, M, Dp, t, s, m, u, k⟩ =>
    lc1_conc hj ⟨σp, M, _, t, s, m, u, fun v H1 p M1 t1 m1 r u1 => k.nx _ _ _ _ t1 ((s.mono t1).set r i) m1 u1⟩
end

end
end PL

set_option Elab.async false
set_option linter.all false
set_option maxRecDepth 100000
set_option maxHeartbeats 2000000
/-! PL6: max, min, sum; methods of lists; the end of a law. -/
namespace PLraw
open PySem PySem.Spec PySem.Calls PyProof.Rows
section
variable {prog : Program} {w : World} {A : Around} {E : Value → Shared → Prop} {s : Shared} {l : Addr} {us : List Value} {ms : List Int} {Q : Value → Shared → Prop}
/-- a tuple of whole numbers, as numbers with their tokens -/
theorem as_items (hl : s.heap.IsTuple l us.toArray) (hi : IntsAre us ms) : ∃ xs : Array (Int × Tok), s.heap.IsTuple l (intItems xs) ∧ numsOf (intItems xs).toList = ms := by
  obtain ⟨xs, q⟩ := hi.allInts.items
  exact ⟨xs, q ▸ hl, q ▸ hi.numsOf⟩
theorem sum_tup (hh : A.handled = none) (hl : s.heap.IsTuple l us.toArray) (hi : IntsAre us ms)
    (k : ∀ g tk t, (∀ b o, s.heap.get? b = some o → g.get? b = some o) → Q (.int ms.sum t) { s with heap := g, toks := tk }) : wpAny (model prog w) A (call (.builtin "sum") [.ref l]) Q E s := by
  obtain ⟨xs, ht, hn⟩ := as_items hl hi
  rw [nums_intItems] at hn
  exact PySem.W.ktm_sumG hh ht fun g tk t old => by
    have z := k g tk t old
    rwa [preSum_eq, List.take_of_length_le (by simp), hn]
/-- what an iterator over a tuple starts from -/
theorem starts {xs : Array Value} (ht : s.heap.IsTuple l xs) : l ≠ s.heap.objs.size ∧ ∀ (o : Obj) (b : Addr), b ∈ [s.heap.objs.size, l] → b < (s.heap.push o).objs.size := by
  obtain ⟨u, hu, _⟩ := ht
  have h := Heap.lt_size hu
  refine ⟨Nat.ne_of_lt h, fun o b hb => ?_⟩
  rw [Heap.size_push]
  have two : b = s.heap.objs.size ∨ b = l := by simpa using hb
  rcases two with e | e <;> subst e
  · exact Nat.lt_succ_self _
  · exact Nat.lt_succ_of_lt h
theorem old_of {g : Heap} {o : Obj} (hk : ∀ b u, b ∉ [s.heap.objs.size] → (s.heap.push o).get? b = some u → g.get? b = some u) : ∀ b u, s.heap.get? b = some u → g.get? b = some u := fun b u e =>
  hk b u (fun hb => by
    have h := Heap.lt_size e
    rw [List.mem_singleton.mp hb] at h
    exact Nat.lt_irrefl _ h) (Heap.get?_push_of_some _ e)
theorem num_mem {xs : Array (Int × Tok)} (i : Nat) (hi : i < xs.size) : numAt xs i ∈ xs.toList.map (·.1) := by
  rw [numAt_eq]
  refine PySem.getD_mem ?_
  rw [List.length_map, Array.length_toList]; exact hi
theorem num_all {xs : Array (Int × Tok)} {P : Int → Prop} (h : ∀ i, i < xs.size → P (numAt xs i)) : ∀ a ∈ xs.toList.map (·.1), P a := fun a ha => by
  obtain ⟨i, hi, rfl⟩ := mem_getD ha
  rw [List.length_map, Array.length_toList] at hi
  rw [← numAt_eq]; exact h i hi
theorem max_tup (hh : A.handled = none) (hl : s.heap.IsTuple l us.toArray) (hi : IntsAre us ms) (ne : 0 < ms.length)
    (k : ∀ g tk m t, (∀ b o, s.heap.get? b = some o → g.get? b = some o) → m ∈ ms → (∀ a, a ∈ ms → a ≤ m) → Q (.int m t) { s with heap := g, toks := tk }) : wpAny (model prog w) A (call (.builtin "max") [.ref l]) Q E s := by
  obtain ⟨xs, ht, hn⟩ := as_items hl hi
  rw [nums_intItems] at hn
  have many : 0 < xs.size := by rw [← hn] at ne; simpa using ne
  obtain ⟨apart, st⟩ := starts ht
  refine call_max_walk (wpAny_pyIter_tuple ht ⟨s.heap.objs.size, _, _, _, _, _, _, rfl, Walks.tuple (A := A.in1) hh _ l apart (intItems xs), ⟨⟨_, Heap.get?_push_size _ rfl, rfl, rfl⟩, ht.push _⟩, fun b hb => ?_, ?_, CmpOf.ints_gt (numAt xs) fun _ _ => intItems_at, fun v g tk hv old => ?_⟩)
  · exact st _ b hb
  · simpa [intItems] using many
  · obtain ⟨t, rfl⟩ := intItems_at (show (intItems xs)[argBest (fun i j => decide (numAt xs i > numAt xs j)) (xs.size - 1)]? = some v by simpa [intItems] using hv)
    have best := argBest_gt (numAt xs) (xs.size - 1)
    refine k g tk _ t (old_of old) (hn ▸ num_mem _ (by omega)) fun a ha => ?_
    rw [← hn] at ha
    exact num_all (P := fun a => a ≤ _) (fun i hi => best.2 i (by omega)) a ha
theorem min_tup (hh : A.handled = none) (hl : s.heap.IsTuple l us.toArray) (hi : IntsAre us ms) (ne : 0 < ms.length)
    (k : ∀ g tk m t, (∀ b o, s.heap.get? b = some o → g.get? b = some o) → m ∈ ms → (∀ a, a ∈ ms → m ≤ a) → Q (.int m t) { s with heap := g, toks := tk }) : wpAny (model prog w) A (call (.builtin "min") [.ref l]) Q E s := by
  obtain ⟨xs, ht, hn⟩ := as_items hl hi
  rw [nums_intItems] at hn
  have many : 0 < xs.size := by rw [← hn] at ne; simpa using ne
  obtain ⟨apart, st⟩ := starts ht
  refine call_min_walk (wpAny_pyIter_tuple ht ⟨s.heap.objs.size, _, _, _, _, _, _, rfl, Walks.tuple (A := A.in1) hh _ l apart (intItems xs), ⟨⟨_, Heap.get?_push_size _ rfl, rfl, rfl⟩, ht.push _⟩, fun b hb => ?_, ?_, CmpOf.ints_lt (numAt xs) fun _ _ => intItems_at, fun v g tk hv old => ?_⟩)
  · exact st _ b hb
  · simpa [intItems] using many
  · obtain ⟨t, rfl⟩ := intItems_at (show (intItems xs)[argBest (fun i j => decide (numAt xs i < numAt xs j)) (xs.size - 1)]? = some v by simpa [intItems] using hv)
    have best := argBest_lt (numAt xs) (xs.size - 1)
    refine k g tk _ t (old_of old) (hn ▸ num_mem _ (by omega)) fun a ha => ?_
    rw [← hn] at ha
    exact num_all (P := fun a => _ ≤ a) (fun i hi => best.2 i (by omega)) a ha
end
end PLraw
namespace PL
open PySem L2
section
variable {X : Cx} {H0 : Hp} {pos : Pos} {K : Kf}
def rSumT (K : Kf) : List V → Hp → VK → Prop := fun vs H Q => ∃ (a : Addr) (ns : List Int), vs = [V.ref a] ∧ SqT K H a (ns.map V.int) ∧ Q (.int ns.sum) H
theorem cr_sumT (hc : X.calm = true) : CallR X (.builtin "sum") (rSumT X.K) := by
  rintro pins s σ H vs us Q I r ⟨a, ns, rfl, here, q⟩
  obtain ⟨_, rv, tup, _⟩ := I.tuple here
  exact Vals.ref1 r ▸ PLraw.sum_tup (I.ok.hd hc) tup rv.ints fun _ _ _ old => ⟨.int _, H, I.kept old, ⟨_, rfl⟩, q⟩
def rMaxT (K : Kf) : List V → Hp → VK → Prop := fun vs H Q => ∃ (a : Addr) (ns : List Int), vs = [V.ref a] ∧ SqT K H a (ns.map V.int) ∧ 0 < ns.length ∧ ∀ m, m ∈ ns → (∀ y, y ∈ ns → y ≤ m) → Q (.int m) H
theorem cr_maxT (hc : X.calm = true) : CallR X (.builtin "max") (rMaxT X.K) := by
  rintro pins s σ H vs us Q I r ⟨a, ns, rfl, here, many, q⟩
  obtain ⟨_, rv, tup, _⟩ := I.tuple here
  exact Vals.ref1 r ▸ PLraw.max_tup (I.ok.hd hc) tup rv.ints many fun _ _ m _ old is most => ⟨.int _, H, I.kept old, ⟨_, rfl⟩, q m is most⟩
def rMinT (K : Kf) : List V → Hp → VK → Prop := fun vs H Q => ∃ (a : Addr) (ns : List Int), vs = [V.ref a] ∧ SqT K H a (ns.map V.int) ∧ 0 < ns.length ∧ ∀ m, m ∈ ns → (∀ y, y ∈ ns → m ≤ y) → Q (.int m) H
theorem cr_minT (hc : X.calm = true) : CallR X (.builtin "min") (rMinT X.K) := by
  rintro pins s σ H vs us Q I r ⟨a, ns, rfl, here, many, q⟩
  obtain ⟨_, rv, tup, _⟩ := I.tuple here
  exact Vals.ref1 r ▸ PLraw.min_tup (I.ok.hd hc) tup rv.ints many fun _ _ m _ old is most => ⟨.int _, H, I.kept old, ⟨_, rfl⟩, q m is most⟩
/-- of one list or tuple -/
def onInts (K : Kf) (c : List Int → (Int → Prop) → Prop) : RCp := fun xs M Q => match xs with
  | [.ref a] => ∃ ns : List Int, rdL K M a (ns.map PV.int) ∧ c ns fun m => Q (.int m) M
  | [.tup l] => ∃ ns : List Int, l = ns.map PV.int ∧ c ns fun m => Q (.int m) M
  | _ => False
theorem onInts_sim {c : List Int → (Int → Prop) → Prop} (hm : ∀ ns P P', (∀ m, P m → P' m) → c ns P → c ns P') : SimC K (fun xs H Q => (∃ (a : Addr) (ns : List Int), xs = [V.ref a] ∧ SqL K H a (ns.map V.int) ∧ c ns fun m => Q (.int m) H) ∨ ∃ (a : Addr) (ns : List Int), xs = [V.ref a] ∧ SqT K H a (ns.map V.int) ∧ c ns fun m => Q (.int m) H) (onInts K c) := by
  intro xs H ps M Q Qp rs m u k
  cases rs with
  | nil => exact u.elim
  | cons r rr => cases rr with
    | cons _ _ => cases r <;> exact u.elim
    | nil => cases r with
      | tup h r =>
        obtain ⟨ns, rfl, q⟩ := u
        have e := r.ints
        subst e
        exact .inr ⟨_, ns, rfl, h.t, hm _ _ _ (fun z q => k _ _ _ _ (Tk.refl _ _) m (.int z) q) q⟩
      | ref a =>
        obtain ⟨ns, h, q⟩ := u
        obtain ⟨vs, e, r⟩ := h.to m
        have e2 := r.ints
        subst e2
        exact .inl ⟨_, ns, rfl, e, hm _ _ _ (fun z q => k _ _ _ _ (Tk.refl _ _) m (.int z) q) q⟩
      | _ => exact u.elim
def sumC (ns : List Int) (P : Int → Prop) : Prop := P ns.sum
def maxC (ns : List Int) (P : Int → Prop) : Prop := 0 < ns.length ∧ ∀ m, m ∈ ns → (∀ y, y ∈ ns → y ≤ m) → P m
def minC (ns : List Int) (P : Int → Prop) : Prop := 0 < ns.length ∧ ∀ m, m ∈ ns → (∀ y, y ∈ ns → m ≤ y) → P m
abbrev sumP (K : Kf) : RCp := onInts K sumC
abbrev maxP (K : Kf) : RCp := onInts K maxC
abbrev minP (K : Kf) : RCp := onInts K minC
theorem cSum (hc : X.calm = true) : CallP X (.builtin "sum") (sumP X.K) := ⟨_, (cr_sum hc).or (cr_sumT hc), fun xs H ps M Q Qp rs m u k => (onInts_sim (c := sumC) (fun _ _ _ h q => h _ q)) xs H ps M Q Qp rs m u k⟩
theorem cMax (hc : X.calm = true) : CallP X (.builtin "max") (maxP X.K) := ⟨_, (cr_max hc).or (cr_maxT hc), fun xs H ps M Q Qp rs m u k => (onInts_sim (c := maxC) (fun _ _ _ h q => ⟨q.1, fun z a b => h _ (q.2 z a b)⟩)) xs H ps M Q Qp rs m u k⟩
theorem cMin (hc : X.calm = true) : CallP X (.builtin "min") (minP X.K) := ⟨_, (cr_min hc).or (cr_minT hc), fun xs H ps M Q Qp rs m u k => (onInts_sim (c := minC) (fun _ _ _ h q => ⟨q.1, fun z a b => h _ (q.2 z a b)⟩)) xs H ps M Q Qp rs m u k⟩
/-- max(a, b), min(a, b) -/
def twoI (g : Int → Int → Prop) : List PV → Prop
  | [.int i, .int j] => g i j
  | _ => False
def max2P : RCp := fun xs M Q => twoI (fun i j => Q (.int (if j > i then j else i)) M) xs
def min2P : RCp := fun xs M Q => twoI (fun i j => Q (.int (if j < i then j else i)) M) xs
theorem two_ints {xs : List V} {H : Hp} {ps : List PV} (rs : Reps K H ps xs) {A : Prop} (g : Int → Int → Prop) (u : twoI g ps) (h : ∀ i j, xs = [.int i, .int j] → g i j → A) : A := by
  cases rs with
  | nil => exact u.elim
  | cons r rr => cases rr with
    | nil => cases r <;> exact u.elim
    | cons r2 rr2 => cases rr2 with
      | cons _ _ => cases r <;> cases r2 <;> exact u.elim
      | nil => cases r with
        | int a => cases r2 with
          | int b => exact h a b rfl u
          | _ => exact u.elim
        | _ => cases r2 <;> exact u.elim
theorem cMax2 (hc : X.calm = true) : CallP X (.builtin "max") max2P := ⟨_, call_max2 hc, fun xs H ps M Q Qp rs m u k => two_ints rs (fun i j => Qp (.int (if j > i then j else i)) M) u fun i j e q => ⟨i, j, e, k _ _ _ _ (Tk.refl _ _) m (.int _) q⟩⟩
theorem cMin2 (hc : X.calm = true) : CallP X (.builtin "min") min2P := ⟨_, call_min2 hc, fun xs H ps M Q Qp rs m u k => two_ints rs (fun i j => Qp (.int (if j < i then j else i)) M) u fun i j e q => ⟨i, j, e, k _ _ _ _ (Tk.refl _ _) m (.int _) q⟩⟩

/-! ### methods of built-in types -/
abbrev RMp := PV → List PV → PHp → PVK → Prop
def tyP (K : Kf) (T : String) (x : PV) (M : PHp) : Prop := match x with
  | .str _ => T = "str"
  | .ref a => (T = "list" ∧ ∃ l, rdL K M a l) ∨ (T = "dict" ∧ ∃ kvs, M a = some (.dK kvs))
  | _ => False
theorem tyP_to {H : Hp} {M : PHp} (m : RelM K H M) {T : String} {p : PV} {v : V} (r : Rep K H p v) (h : tyP K T p M) : tyV K T v H := by
  cases r with
  | str z => exact h
  | ref a =>
    rcases h with ⟨h1, l, h2⟩ | ⟨h1, kvs, h2⟩
    · obtain ⟨vs, e, _⟩ := h2.to m
      exact .inl ⟨h1, vs, e⟩
    · obtain ⟨vs, e, _⟩ := m a _ h2
      exact .inr (.inr (.inl ⟨h1, .inl ⟨vs, e⟩⟩))
  | _ => exact h.elim
def MtP (X : Cx) (id : String) (u : RMp) : Prop := ∃ r, MtR X id r ∧ ∀ x xs H px ps M (Q : VK) (Qp : PVK), Rep X.K H px x → Reps X.K H ps xs → RelM X.K H M → u px ps M Qp → Kont X.K H Q Qp → r x xs H Q
@[reducible] def tBM (K : Kf) (T : String) (u : RMp) (to : TEp) (ta : TAp) : TEp := fun σ M Q => to σ M fun x M1 => tyP K T x M1 ∧ ta σ M1 fun ps M2 => u x ps M2 Q
@[reducible] def tBM0 (K : Kf) (T : String) (u : RMp) (to : TEp) : TEp := fun σ M Q => to σ M fun x M1 => tyP K T x M1 ∧ u x [] M1 Q
variable {o e : Expr} {es : List Expr} {to : TEp} {ta : TAp} {name : Str} {apos cpos : Pos} {T id : String} {u : RMp}
theorem pbm0 (pa : PlainAttrs T) (slot : Slot T name id) (hty : typeOf (.builtin id) = pure (.type "method_descriptor")) (hm : MtP X id u) (ho : PEp X H0 o to)
    (h1 : attributeBase o name X.env (eval o X.env) = eval o X.env := by rfl) (h3 : (apos.endLine == cpos.line) = true := by rfl) : PEp X H0 (.Call (.Attribute o name apos) [] [] cpos) (tBM0 X.K T u to) := by
  obtain ⟨r, g1, g2⟩ := hm
  exact peW (pe_bm0 pa slot hty g1 ho h1 h3) fun σ H Q ⟨σp, M, Qp, t, s, m, u, k⟩ => ⟨σp, M, _, t, s, m, u, fun x H1 px M1 t1 m1 rx u1 =>
    ⟨tyP_to m1 rx u1.1, g2 x [] H1 px [] M1 Q Qp rx .nil m1 u1.2 fun v H2 p M2 t2 => k v H2 p M2 (t1.trans t2)⟩⟩
theorem pbm (pa : PlainAttrs T) (slot : Slot T name id) (hty : typeOf (.builtin id) = pure (.type "method_descriptor")) (hm : MtP X id u) (ho : PEp X H0 o to) (ha : PAp X H0 (e :: es) ta)
    (h1 : attributeBase o name X.env (eval o X.env) = eval o X.env := by rfl)
    (h2 : (((backTo cpos (starEach (e :: es) X.env)).all (fun x => !x.1) && (backToKw cpos (keywordEach [] X.env)).all (fun x => x.1.isSome)) && decide ((e :: es).length + ([] : List Keyword).length + (if ([] : List Keyword).isEmpty then 0 else 1) < 30)) = true := by rfl)
    (h3 : (apos.endLine == cpos.line) = true := by rfl) (h4 : starEach (e :: es) X.env = (false, eval e X.env) :: starEach es X.env := by rfl) (h5 : (backTo cpos (starEach es X.env)).any (·.1) = false := by rfl) :
    PEp X H0 (.Call (.Attribute o name apos) (e :: es) [] cpos) (tBM X.K T u to ta) := by
  obtain ⟨r, g1, g2⟩ := hm
  exact peW (pe_bm pa slot hty g1 ho ha h1 h2 h3 h4 h5) fun σ H Q ⟨σp, M, Qp, t, s, m, u, k⟩ => ⟨σp, M, _, t, s, m, u, fun x H1 px M1 t1 m1 rx u1 =>
    ⟨tyP_to m1 rx u1.1, σp, M1, _, t.trans t1, s.mono t1, m1, u1.2, fun xs H2 ps M2 t2 m2 rs u2 => g2 x xs H2 px ps M2 Q Qp (rx.mono t2) rs m2 u2 fun v H3 p M3 t3 => k v H3 p M3 (t1.trans (t2.trans t3))⟩⟩
def appendP : RMp := fun x ps M Q => match x, ps with
  | .ref a, [p] => ∃ l, M a = some (.lst l) ∧ l.length < sizeLine ∧ Q .non (updM M a (.lst (l ++ [p])))
  | _, _ => False
theorem mAppend : MtP X "list.append" appendP := by
  refine ⟨_, mt_append, fun x xs H px ps M Q Qp rx rs m u k => ?_⟩
  cases rx with
  | ref a => cases rs with
    | nil => exact u.elim
    | cons r rr => cases rr with
      | cons _ _ => exact u.elim
      | nil =>
        obtain ⟨l, h, hl, q⟩ := u
        obtain ⟨vs, e, rv⟩ := m _ _ h
        obtain ⟨tk, mm⟩ := Tk_set (l := l) m e (rv.snoc r)
        exact ⟨_, _, _, rfl, rfl, e, by rw [← rv.length]; exact hl, k _ _ _ _ tk mm .non q⟩
  | _ => cases rs <;> exact u.elim
def popP : RMp := fun x ps M Q => match x, ps with
  | .ref a, [] => ∃ l y, M a = some (.lst l) ∧ l[l.length - 1]? = some y ∧ Q y (updM M a (.lst l.dropLast))
  | _, _ => False
theorem Reps.dropLast {H : Hp} {ps : List PV} {vs : List V} (r : Reps K H ps vs) : Reps K H ps.dropLast vs.dropLast := by
  rw [List.dropLast_eq_take, List.dropLast_eq_take, r.length]
  exact r.take _
theorem mPop : MtP X "list.pop" popP := by
  refine ⟨_, mt_pop, fun x xs H px ps M Q Qp rx rs m u k => ?_⟩
  cases rx with
  | ref a => cases rs with
    | cons _ _ => exact u.elim
    | nil =>
      obtain ⟨l, y, h, hl, q⟩ := u
      obtain ⟨vs, e, rv⟩ := m _ _ h
      obtain ⟨v, e2, r2⟩ := rv.get hl
      obtain ⟨tk, mm⟩ := Tk_set (l := l) m e rv.dropLast
      exact ⟨_, _, v, rfl, rfl, e, by rw [← rv.length]; exact e2, k _ _ _ _ tk mm (r2.mono tk) q⟩
  | _ => cases rs <;> exact u.elim
/-- the first place of a whole number in a list of whole numbers -/
def indexIP (K : Kf) : RMp := fun x ps M Q => match x, ps with
  | .ref a, [.int y] => ∃ (ns : List Int) (j : Nat), rdL K M a (ns.map PV.int) ∧ ns[j]? = some y ∧ (∀ i, i < j → ns[i]? ≠ some y) ∧ Q (.int (j : Int)) M
  | _, _ => False
theorem mIndexI : MtP X "list.index" (indexIP X.K) := by
  refine ⟨_, mt_index, fun x xs H px ps M Q Qp rx rs m u k => ?_⟩
  cases rx with
  | ref a => cases rs with
    | nil => exact u.elim
    | cons r rr => cases rr with
      | cons _ _ => cases r <;> exact u.elim
      | nil => cases r with
        | int y =>
          obtain ⟨ns, j, h, h1, h2, q⟩ := u
          obtain ⟨vs, e, rv⟩ := h.to m
          have e2 := rv.ints
          subst e2
          refine ⟨a, ns.map V.int, .int y, j, .int y, rfl, rfl, e, rfl, ?_, ?_, ?_, ?_, k _ _ _ _ (Tk.refl _ _) m (.int _) q⟩
          · rw [List.all_eq_true]
            intro z hz
            obtain ⟨n, _, rfl⟩ := List.mem_map.mp hz
            rfl
          · rw [List.getElem?_map, h1]; rfl
          · show (y == y) = true
            exact beq_self_eq_true y
          · intro i z hi hz
            rw [List.getElem?_map] at hz
            cases e3 : ns[i]? with
            | none => rw [e3] at hz; cases hz
            | some n =>
              rw [e3] at hz
              have e4 := Option.some.inj hz
              subst e4
              show (n == y) = false
              rw [beq_eq_false_iff_ne]
              intro e5
              exact h2 i hi (by rw [e3, e5])
        | _ => exact u.elim
  | _ => cases rs with
    | nil => exact u.elim
    | cons r rr => cases rr <;> cases r <;> exact u.elim
end
end PL

set_option Elab.async false
set_option linter.all false
set_option maxRecDepth 100000
set_option maxHeartbeats 2000000
/-! PL7: the end of a law. -/
namespace PL
open PySem L2 PySem.Spec PyProof.Rows
/-- the end: as law_call of the layer, but the def may also use that nothing sees a great division -/
theorem law_callS {P : Program} {w : World} {K : Kf} {mg mb : Str → Option Value} {k : Nat} {fa sc : Addr} {fd : FuncData} {x : Str} {sp : Sp} {t : Shared} {us : List Value} {zs : List Int}
    (kin : K.In t.heap) (glob : t.heap.Ns mainGlobals mg) (blt : t.heap.Ns builtinsNs mb) (boot : ∀ x : Str, x ≠ "__name__" → mb x = bootBuiltins x) (lim : t.heap.NoLimit) (see : t.heap.NoSeer) (quiet : t.gens = #[])
    (script : t.heap.get? sc = some { cls := .type "list", data := .seq us.toArray }) (whole : IntsAre us zs) (few : zs.length ≤ sizeLine) (room : Room k callerA)
    (F : ∀ base : Heap, K.In base → base.Ns mainGlobals mg → base.NoSeer → FnOk P w K mg base CX0 k fa fd [x] sp) (binds : ∀ (s : Shared) (u : Value), BindsTo s fd ⟨[u], []⟩ [(x, u)])
    (keeps : ∀ H : Hp, Only H → SqL K H sc (zs.map V.int) → sp [.ref sc] H (fun v _ => v = .bl true) fun _ _ _ => False) :
    codeAny (model P w) callerA (.call (.ref fa) ⟨[.ref sc], []⟩) (fun r s' => r = .ok (.ret (.bool true)) ∧ OldK t.heap s'.heap ∧ s'.os = t.os ∧ AllBare s'.gens) t := by
  have vals := vals_ints whole
  -- H tracks the script at most; then the base is the heap without it
  have main : ∀ H : Hp, Only H → SqL K H sc (zs.map V.int) → HOk P w H t.heap → (∀ b, H b ≠ none → b = sc ∧ K.lookup sc = none) →
      codeAny (model P w) callerA (.call (.ref fa) ⟨[.ref sc], []⟩) (fun r s' => r = .ok (.ret (.bool true)) ∧ OldK t.heap s'.heap ∧ s'.os = t.os ∧ AllBare s'.gens) t := by
    intro H only seq ok at_sc
    have free : ∀ {b : Addr} {o : Obj}, t.heap.get? b = some o → o ≠ { cls := .type "list", data := .seq us.toArray } → H b = none := fun {b o} e d => by
      cases q : H b with
      | none => rfl
      | some u =>
        obtain ⟨rfl, _⟩ := at_sc b (by rw [q]; exact Option.some_ne_none u)
        exact absurd (Option.some.inj (e.symm.trans script)) d
    have stay : ∀ {b : Addr} {o : Obj}, t.heap.get? b = some o → o ≠ { cls := .type "list", data := .seq us.toArray } → (hidT t.heap H).get? b = some o := fun e d => hidT_get e (free e d)
    have ns : ∀ {b : Addr} {m : Str → Option Value}, t.heap.Ns b m → (hidT t.heap H).Ns b m := fun {b m} n => by
      obtain ⟨o, es, ep, e, d, r⟩ := n
      refine ⟨o, es, ep, stay e (fun z => ?_), d, r⟩
      subst z
      exact Data.noConfusion d
    have kb : K.In (hidT t.heap H) := fun b o e => hidT_get (kin b o e) (by
      cases q : H b with
      | none => rfl
      | some u =>
        obtain ⟨rfl, no⟩ := at_sc b (by rw [q]; exact Option.some_ne_none u)
        rw [no] at e; cases e)
    have nsee : (hidT t.heap H).NoSeer := by
      obtain ⟨⟨m1, a1, b1⟩, ⟨m2, a2, b2⟩, ⟨m3, a3, b3⟩, ⟨m4, bm, ob, a4, b4, c4, d4, e4⟩⟩ := see
      refine ⟨⟨m1, ns a1, b1⟩, ⟨m2, ns a2, b2⟩, ⟨m3, ns a3, b3⟩, ⟨m4, bm, ob, ns a4, b4, stay c4 (fun z => ?_), d4, e4⟩⟩
      subst z
      injection d4 with d5
      revert d5; decide
    have nlim : (hidT t.heap H).NoLimit := by
      obtain ⟨m1, a1, b1⟩ := lim
      exact ⟨m1, ns a1, b1⟩
    have around : Env0 P w K mg (hidT t.heap H) callerA [] t H := ⟨rfl, ⟨kb, ns glob, ⟨mb, ns blt, boot⟩, nlim⟩, fun b o e => of_hidT e, Nat.le_of_eq (hidT_size _ _), trivial, (fun b hb => by cases hb), ok, .of_eq quiet⟩
    have ran := (F _ kb (ns glob) nsee).run callerA [] t H ⟨[.ref sc], []⟩ [.ref sc] [.ref sc] _ _ room around (binds t (.ref sc)) (.cons rfl .nil) (keeps H only seq)
    refine codeAny_mono ran fun r s' h => ?_
    match r, h with
    | .ok (.ret u), ⟨v, H', os, bare, un, ok', rel, hv⟩ =>
      have hv' : v = .bl true := hv
      subst hv'
      obtain rfl : u = Value.bool true := rel
      refine ⟨rfl, .of_keep fun b o e => ?_, os, bare⟩
      cases q : H b with
      | none => exact un.keep b o e q (List.not_mem_nil) (List.not_mem_nil)
      | some u =>
        rcases only b with none | ⟨ob, xs, here⟩
        · rw [none] at q; cases q
        · have before := (ok b _ here).1
          have behind := (ok' b _ (un.frzs b ob _ here)).1
          rw [← Option.some.inj (before.symm.trans e)]
          exact behind
  by_cases known : K.lookup sc = none
  · refine main (fun b => if b = sc then some (.frz { cls := .type "list", data := .seq us.toArray } (.lst (zs.map V.int))) else none) (fun b => ?_) (.inl (.inr ⟨_, if_pos rfl⟩)) (fun b u here => ?_) fun b here => ?_
    all_goals by_cases at_b : b = sc
    · exact .inr ⟨_, _, if_pos at_b⟩
    · exact .inl (if_neg at_b)
    · subst at_b
      obtain rfl := Option.some.inj ((if_pos rfl).symm.trans here)
      exact ⟨script, Nat.le_trans (Nat.le_of_eq (List.length_map _)) few, us, _, vals, script⟩
    · exfalso; have z := (if_neg at_b).symm.trans here; cases z
    · exact ⟨at_b, known⟩
    · exact absurd (if_neg at_b) here
  · obtain ⟨o, ko⟩ := Option.ne_none_iff_exists'.mp known
    have same := Option.some.inj ((kin sc o ko).symm.trans script)
    subst same
    exact main (fun _ => none) (fun _ => .inl rfl) (.inr ⟨_, us.toArray, _, ko, rfl, rfl, rfl, by rw [List.size_toArray, whole.length]; exact few, vals⟩) (fun b u here => by cases here) fun b here => absurd rfl here
/-- what the law's own def promises -/
def spLaw (K : Kf) : PSpec := fun vs M Q _ => ∃ (a : Addr) (ns : List Int), vs = [.ref a] ∧ rdL K M a (ns.map PV.int) ∧ ns.length ≤ 63 ∧ (∀ z ∈ ns, Builtin.Int.intBits z ≤ 1048576) ∧ Q (.bl true) M
theorem walkP {l : PySem.W.OpenLaw} {k : Nat} {q : Program} {loose : List Str} {XP : (Str → Option Value) → Heap → Prop} {YP : World → Heap → Prop} {d : DefRec} {K : Params → Kf} {x : Str}
    (hn : l.most = some 63) (hdf : d.params.defaults = []) (hr : Room k callerA) (ht : l.prog.given.tree = none) (hq : importsNone q = true)
    (hY : ∀ (wd : World) (hp : Heap), YP wd hp → (K wd.params).In hp)
    (F : ∀ (wd : World) (g : Str → Option Value) (fa : Addr) (hp : Heap), (K wd.params).In hp → hp.Ns mainGlobals g → g d.name = some (.ref fa) →
      ∃ fd : FuncData, (∀ (t : Shared) (z : Value), BindsTo t fd ⟨[z], []⟩ [(x, z)]) ∧ ∀ b0 : Heap, (K wd.params).In b0 → b0.Ns mainGlobals g → Sure l.prog b0 → FnOk l.prog wd (K wd.params) g b0 CX0 k fa fd [x] (concF (K wd.params) (spLaw (K wd.params)))) :
    PySem.W.WalkO q loose XP YP l.row.toRowW d [] (fun fn us => PySem.call fn us) := by
  refine Att.attach_callB hn hdf fun w before after mg mb fa o pm cd doc a vs ns G Y _ _ _ named here whole few bits quiet => ?_
  have kin := hY w _ Y
  obtain ⟨fd, bound, proved⟩ := F w mg fa _ kin G.T.g named
  refine law_callS kin G.T.g G.T.b G.T.builtins G.T.nolimit (G.T.seer hq) quiet here whole (Nat.le_trans few (by decide)) hr (fun base h1 h2 h3 => proved base h1 h2 ⟨h3, ht⟩) bound (fun H hO hS => ?_)
  rcases hS with hS | hS
  · refine ⟨[.ref a], fun b => if b = a then some (.ro (ns.map PV.int)) else none, fun v _ => v = .bl true, fun _ _ _ => False, .cons (.ref a) .nil, fun b o e => ?_, ⟨a, ns, rfl, .inr (.inl (if_pos rfl)), few, bits, rfl⟩, fun v H' p M' _ _ r e => ?_, fun _ _ _ _ _ _ z => z⟩
    · have e : (if b = a then some (MO.ro (ns.map PV.int)) else none) = some o := e
      by_cases hb : b = a
      · rw [if_pos hb] at e; cases e; subst hb
        exact ⟨_, hS, Reps.of_ints⟩
      · rw [if_neg hb] at e; cases e
    · subst e; cases r; rfl
  · refine ⟨[.ref a], fun b => none, fun v _ => v = .bl true, fun _ _ _ => False, .cons (.ref a) .nil, (fun b o e => by cases e), ⟨a, ns, rfl, .inr (.inr ⟨_, hS, fun H => Reps.of_ints⟩), few, bits, rfl⟩, fun v H' p M' _ _ r e => ?_, fun _ _ _ _ _ _ z => z⟩
    subst e; cases r; rfl
/-- a def stands where the top has written it -/
theorem here_of {K : Kf} {h : Heap} {mg : Str → Option Value} {x : Str} {st : Stmt} {ps : List Str} {f : Addr} {oc : Value} {od an : Option Addr} {osl : Array (Option Value)} {kV dc pm cd ct : Value} (X : K.In h) (G : h.Ns mainGlobals mg)
    (a : PySem.W.nsIn K mainGlobals x = some (some (.ref f))) (l : K.lookup f = some ⟨oc, od, .func (PySem.W.fnOf x x (defArgs st) (defBody st) (defScope st) .none kV dc pm an cd ct), osl⟩) (c : PySem.W.codeIn K cd x = true) (k : PySem.W.keepIn K (.ref f) = true)
    (b : ∀ (kV doc pm : Value) (an : Option Addr) (cdv ct : Value) (us : List Value), us.length = ps.length → bindArgs (PySem.W.fnOf x x (defArgs st) (defBody st) (defScope st) .none kV doc pm an cdv ct) ⟨us, []⟩ = pure (ps.zip us)) : Here K mg x st ps :=
  ⟨⟨f, _, fun_mk l c k, PySem.W.mg_of X G a, (fun_mk l c k).binds b⟩⟩
/-- the law's own def -/
theorem law_of {P : Program} {w : World} {K : Kf} {mg : Str → Option Value} {base : Heap} {k : Nat} {x : Str} {st : Stmt} {N ps : List Str} {psp : PSpec} {f : Addr} {fd : FuncData} (F : Fun K x x st f fd) (S : FnScope N ps (defScope st)) (len : ∀ vs M Q E, psp vs M Q E → vs.length = ps.length)
    (body : ∀ f cdv A outer s H E, Room k (defCx P w K mg base N x st f cdv A outer s H E).A → ∃ t, PSsp (defCx P w K mg base N x st f cdv A outer s H E) H (defBody st) t ∧ ∀ vs M Q Ep, psp vs M Q Ep → t (ends Q) (startP N vs) M) :
    FnOk P w K mg base CX0 (k + 1) f fd ps (concF K psp) := by
  refine F.ok S (fun vs H Q E h => ?_) (fun cdv A outer s H vs Q E hr h => ?_)
  · obtain ⟨qs, M, Qp, Ep, r, m, u, _⟩ := h
    rw [← r.length]
    exact len _ _ _ _ u
  · obtain ⟨qs, M, Qp, Ep, r, m, u, k1, k2⟩ := h
    obtain ⟨t, d, b⟩ := body f cdv A outer s H E hr
    refine ⟨_, d, startP N qs, M, ends Qp, Tk.refl _ _, startP_rel r N, m, b _ _ _ _ u, ⟨fun σ' H' σp' M' t1 s1 m1 q => ?_, fun v H' p M' t1 m1 r1 q => ?_, fun _ _ _ _ _ _ _ z => z.elim, fun _ _ _ _ _ _ _ z => z.elim⟩⟩
    · obtain ⟨M0, sb, q⟩ := q
      exact k1 _ _ _ _ t1 (m1.sub sb) .non q
    · obtain ⟨M0, sb, q⟩ := q
      exact k1 _ _ _ _ t1 (m1.sub sb) r1 q
end PL
namespace PL
open PySem L2
section
variable {X : Cx} {H0 : Hp} {K : Kf} {st : Stmt} {rest : List Stmt} {ts us : TSp}
/-- a statement, then the rest from a word between them -/
@[reducible] def tCut (t u : TSp) : TSp := fun D σ M => ∃ Mid : PSt → PHp → Prop, t (nxt D (Nx Mid)) σ M ∧ ∀ σ' M', Mid σ' M' → u D σ' M'
theorem psscut (h1 : PSp' X H0 st ts) (h2 : PSsp X H0 rest us) : PSsp X H0 (st :: rest) (tCut ts us) := pssW (pss_cons h1 h2) fun D σ H ⟨σp, M, Dp, t, s, m, ⟨Mid, u, q⟩, k⟩ =>
  ⟨σp, M, _, t, s, m, u, ⟨fun σ1 H1 σp1 M1 t1 s1 m1 ⟨σ0, M0, ss, sm, z⟩ => ⟨σ0, M0, Dp, t.trans t1, s1.sub ss, m1.sub sm, q _ _ z, k.mono t1⟩, k.rt, k.bk, k.ct⟩⟩
end
end PL

set_option Elab.async false
set_option linter.all false
set_option maxRecDepth 100000
set_option maxHeartbeats 2000000
/-! PL8: answers. -/
namespace PL
open PySem L2
section
variable {K : Kf} {M : PHp} {a : Addr} {l xs : List PV} {v : PV} {i j : Int} {n : Nat} {B : Prop}
theorem g_ixl {R : PV → Prop} (h : rdL K M a l) (e : atI l i = some v) (q : R v) : ∃ l, rdL K M a l ∧ ∃ v, atI l i = some v ∧ R v := ⟨_, h, _, e, q⟩
theorem g_ixt {R : PV → Prop} (e : atI l i = some v) (q : R v) : ∃ v, atI l i = some v ∧ R v := ⟨_, e, q⟩
theorem g_rd {R : List PV → Prop} (h : rdL K M a l) (q : R l) : ∃ l, rdL K M a l ∧ R l := ⟨_, h, q⟩
theorem g_set {R : List PV → Nat → Prop} (h : M a = some (.lst xs)) (e : ixN xs.length i = some n) (q : R xs n) : ∃ xs j, M a = some (.lst xs) ∧ ixN xs.length i = some j ∧ R xs j := ⟨_, _, h, e, q⟩
theorem g_app {R : List PV → Prop} (h : M a = some (.lst xs)) (e : xs.length < sizeLine) (q : R xs) : ∃ l, M a = some (.lst l) ∧ l.length < sizeLine ∧ R l := ⟨_, h, e, q⟩
theorem g_lst {R : List PV → Prop} (h : M a = some (.lst xs)) (q : R xs) : ∃ l, M a = some (.lst l) ∧ R l := ⟨_, h, q⟩
theorem g_sz (h : xs.length ≤ sizeLine) (q : B) : xs.length ≤ sizeLine ∧ B := ⟨h, q⟩
theorem g_mul (h : IntMulOk i j) (q : B) : IntMulOk i j ∧ B := ⟨h, q⟩
theorem g_ne (h : j ≠ 0) (q : B) : j ≠ 0 ∧ B := ⟨h, q⟩
theorem g_pow (h : 0 ≤ j ∧ j ≤ 1000000 ∧ i.natAbs < 2 ^ 64) (q : B) : (0 ≤ j ∧ j ≤ 1000000 ∧ i.natAbs < 2 ^ 64) ∧ B := ⟨h, q⟩
theorem g_kit {t s : String} (h : isiKit t s = true) (q : B) : isiKit t s = true ∧ B := ⟨h, q⟩
theorem g_rng1 (h : -(2 ^ 62) ≤ j ∧ j < 2 ^ 62) (q : B) : (-(2 ^ 62) ≤ j ∧ j < 2 ^ 62) ∧ B := ⟨h, q⟩
theorem g_rng2 (h : -(2 ^ 62) ≤ i ∧ i < 2 ^ 62 ∧ -(2 ^ 62) ≤ j ∧ j < 2 ^ 62) (q : B) : (-(2 ^ 62) ≤ i ∧ i < 2 ^ 62 ∧ -(2 ^ 62) ≤ j ∧ j < 2 ^ 62) ∧ B := ⟨h, q⟩
theorem g_tup {k : Nat} (h : xs.length = k) (q : B) : xs.length = k ∧ B := ⟨h, q⟩
theorem g_ty {T : String} {x : PV} (h : tyP K T x M) (q : B) : tyP K T x M ∧ B := ⟨h, q⟩
theorem small_ok {i j : Int} (h : i.natAbs < 2 ^ 64) : IntMulOk i j := by
  refine IntMulOk.of_left ?_
  unfold Builtin.Int.intBits
  split
  · omega
  · rename_i hz
    have h2 := (Nat.log2_lt (n := i.natAbs) (k := 64) (by simpa using hz)).mpr h
    omega
theorem small_ok' {i j : Int} (h : j.natAbs < 2 ^ 64) : IntMulOk i j := by
  refine IntMulOk.of_right ?_
  unfold Builtin.Int.intBits
  split
  · omega
  · rename_i hz
    have h2 := (Nat.log2_lt (n := j.natAbs) (k := 64) (by simpa using hz)).mpr h
    omega
end
/-! the same with the written part named -/
section
variable {X : Cx} {H0 : Hp} {pos : Pos} {K : Kf}
theorem opEqK (hu : X.A.units + 64 < cLine) (hK : X.K = K := by rfl) : OpP X (compareOp .Eq) (eqP K) := hK ▸ opEq hu
theorem opNeK (hu : X.A.units + 64 < cLine) (hK : X.K = K := by rfl) : OpP X (compareOp .NotEq) (neP K) := hK ▸ opNe hu
theorem cLenK (hK : X.K = K := by rfl) : CallP X (.builtin "len") (lenP K) := hK ▸ cLen
theorem cTupleK (hK : X.K = K := by rfl) : CallP X (.type "tuple") (tupleP K) := hK ▸ cTuple
theorem cListK (hK : X.K = K := by rfl) : CallP X (.type "list") (listP K) := hK ▸ cList
theorem cIsiK (hK : X.K = K := by rfl) : CallP X (.builtin "isinstance") (isiP K) := hK ▸ cIsi
theorem cSumK (hc : X.calm = true) (hK : X.K = K := by rfl) : CallP X (.builtin "sum") (sumP K) := hK ▸ cSum hc
theorem cMaxK (hc : X.calm = true) (hK : X.K = K := by rfl) : CallP X (.builtin "max") (maxP K) := hK ▸ cMax hc
theorem cMinK (hc : X.calm = true) (hK : X.K = K := by rfl) : CallP X (.builtin "min") (minP K) := hK ▸ cMin hc
theorem mIndexIK (hK : X.K = K := by rfl) : MtP X "list.index" (indexIP K) := hK ▸ mIndexI
theorem pixK {a b : Expr} {ta tb : TEp} (ha : PEp X H0 a ta) (hb : PEp X H0 b tb) (hs : PlainIx b := by exact fun _ _ => rfl) (hK : X.K = K := by rfl) : PEp X H0 (.Subscript a b pos) (tOp (ixP K) ta tb) := by
  subst hK; exact pix ha hb hs
theorem piseqK {tg e : Expr} {te : TEp} (h : PEp X H0 e te) (hK : X.K = K := by rfl) : PIp' X H0 tg e (iSeq K te) := by
  subst hK; exact piseq h
variable {o e : Expr} {es : List Expr} {to : TEp} {ta : TAp} {name : Str} {apos cpos : Pos} {T id : String} {u : RMp}
theorem pbm0K (pa : PlainAttrs T) (slot : Slot T name id) (hty : typeOf (.builtin id) = pure (.type "method_descriptor")) (hm : MtP X id u) (ho : PEp X H0 o to)
    (h1 : attributeBase o name X.env (eval o X.env) = eval o X.env := by rfl) (h3 : (apos.endLine == cpos.line) = true := by rfl) (hK : X.K = K := by rfl) : PEp X H0 (.Call (.Attribute o name apos) [] [] cpos) (tBM0 K T u to) := by
  subst hK; exact pbm0 pa slot hty hm ho h1 h3
theorem pbmK (pa : PlainAttrs T) (slot : Slot T name id) (hty : typeOf (.builtin id) = pure (.type "method_descriptor")) (hm : MtP X id u) (ho : PEp X H0 o to) (ha : PAp X H0 (e :: es) ta)
    (h1 : attributeBase o name X.env (eval o X.env) = eval o X.env := by rfl)
    (h2 : (((backTo cpos (starEach (e :: es) X.env)).all (fun x => !x.1) && (backToKw cpos (keywordEach [] X.env)).all (fun x => x.1.isSome)) && decide ((e :: es).length + ([] : List Keyword).length + (if ([] : List Keyword).isEmpty then 0 else 1) < 30)) = true := by rfl)
    (h3 : (apos.endLine == cpos.line) = true := by rfl) (h4 : starEach (e :: es) X.env = (false, eval e X.env) :: starEach es X.env := by rfl) (h5 : (backTo cpos (starEach es X.env)).any (·.1) = false := by rfl) (hK : X.K = K := by rfl) :
    PEp X H0 (.Call (.Attribute o name apos) (e :: es) [] cpos) (tBM K T u to ta) := by
  subst hK; exact pbm pa slot hty hm ho ha h1 h2 h3 h4 h5
end
end PL

set_option Elab.async false
set_option linter.all false
set_option maxRecDepth 100000
set_option maxHeartbeats 2000000
/-! PL9: membership, isinstance of a tuple of types, str, pop(i), sorted, ranges as lists, two fors, what is never reached. -/
namespace PLraw
open PySem PySem.Spec PySem.Calls PyProof.Rows
section
variable {prog : Program} {w : World} {A : Around} {E : Value → Shared → Prop} {s : Shared}
/-- the items of a tuple, gathered -/
theorem gather_tup {l : Addr} {vs : List Value} {Q : List Value → Shared → Prop} (tup : s.heap.IsTuple l vs.toArray) (few : vs.length ≤ sizeLine)
    (h : Q vs { s with heap := (s.heap.push (seqObj "list" #[] 0)).update s.heap.objs.size (Obj.mapSeq (· ++ vs.toArray)) }) : wpAny (model prog w) A (collect (.ref l)) Q E s := by
  obtain ⟨o, at_l, cls, n, dat⟩ := tup
  have quiet : ∀ args, (Code.builtin "list.__iadd__" args).quiet = true := fun args => Code.quiet_builtin args (by decide +kernel)
  unfold collect; refine wpAny_bind (wpAny_runValue (codeAny_builtin entry_proto_collect' ?_)); change wpAny _ _ (do again (.builtin "list.__iadd__" ⟨[← newList [], .ref l], []⟩)) _ _ s
  refine wpAny_bind (wpAny_newList (wpAny_pure ⟨quiet _, codeAny_builtin entry_list_iadd' ?_⟩))
  change wpAny _ _ (Builtin.List.listExtendWith (.ref s.heap.objs.size) (.ref l) (.ref s.heap.objs.size)) _ _ { s with heap := s.heap.push (seqObj "list" #[] 0) }; unfold Builtin.List.listExtendWith
  have here : (s.heap.push (seqObj "list" #[] 0)).get? l = some o := Heap.get?_push_of_some _ at_l
  have fresh : (s.heap.push (seqObj "list" #[] 0)).get? s.heap.objs.size = some (seqObj "list" #[] 0) := Heap.get?_push_size _ rfl
  refine wpAny_bind (wpAny_typeOf (T := "tuple") ⟨o, here, cls⟩ ?_)
  rw [if_pos (by rw [show (Value.type "tuple" == Value.type "tuple") = true by rfl]; simp)]
  refine wpAny_bind (listItems_at here dat (wpAny_bind (listItems_at (xs := #[]) (n := 0) fresh rfl ?_)))
  rw [if_neg (by simp)]
  refine wpAny_bind (listUpdate_at (xs := #[]) (n := 0) fresh rfl (wpAny_pure ?_) (Nat.zero_le _) (by show (#[] ++ vs.toArray).size ≤ sizeLine + 1; simp only [Array.size_append, List.size_toArray, List.length_nil]; omega))
  change wpAny (model prog w) A (load s.heap.objs.size >>= fun ob => match ob.data with | .seq xs _ => pure xs.toList | _ => unsupported "internal:collect") Q E { s with heap := (s.heap.push (seqObj "list" #[] 0)).update s.heap.objs.size (Obj.mapSeq (· ++ vs.toArray)) }
  have all : ((#[] : Array Value) ++ vs.toArray).toList = vs := by simp
  refine wpAny_bind (wpAny_load (get?_update_seq fresh _) ?_); change wpAny _ _ (pure ((#[] : Array Value) ++ vs.toArray).toList) Q E _
  rw [all]
  exact wpAny_pure h
/-- sorted(x) of a tuple, by its sort -/
theorem sorted_tup {l : Addr} {vs : List Value} {Q : Value → Shared → Prop} {R : Array Value → Prop} (tup : s.heap.IsTuple l vs.toArray) (few : vs.length ≤ sizeLine)
    (sorts : ∀ (A : Around) (t : Shared) (a : Addr) (P : Fin → Shared → Prop), t.heap.get? a = some (seqObj "list" vs.toArray 0) → (∀ out, R out → P (.done (.ret .none)) { t with heap := sortedHeap t.heap a vs out }) → ∀ E, wpAny (model prog w) A (Builtin.«list.sort» ⟨[.ref a], []⟩) P E t)
    (h : ∀ out, R out → Q (.ref (s.heap.objs.size + 1)) { s with heap := sortedAll s.heap vs out }) : wpAny (model prog w) A (call (.builtin "sorted") [.ref l]) Q E s := by
  refine (Calls.call_function_entry kind_sorted plain_sorted entry_sorted (args_sorted1 _) ?_)
  unfold Builtin.«sorted»
  refine wpAny_bind (m := checkCount "sorted" 1 1 _) (wpAny_pure (wpAny_bind (gather_tup tup few (wpAny_bind (wpAny_newList ?_)))))
  have count : ((s.heap.push (seqObj "list" #[] 0)).update s.heap.objs.size (Obj.mapSeq (· ++ vs.toArray))).objs.size = s.heap.objs.size + 1 := (Heap.size_update _ _ _).trans (size_push' _ _)
  have laid : (((s.heap.push (seqObj "list" #[] 0)).update s.heap.objs.size (Obj.mapSeq (· ++ vs.toArray))).push (seqObj "list" vs.toArray 0)).get? (s.heap.objs.size + 1) = some (seqObj "list" vs.toArray 0) := count ▸ Heap.get?_push_size _ rfl
  change wpAny _ _ _ _ _ { s with heap := ((s.heap.push (seqObj "list" #[] 0)).update s.heap.objs.size (Obj.mapSeq (· ++ vs.toArray))).push (seqObj "list" vs.toArray 0) }
  rw [count]
  exact wpAny_bind (wpAny_holding (wpAny_call_entry slot_list_sort ⟨_, laid, rfl⟩ entry_list_sort (sorts _ _ _ _ laid (fun out ro => ⟨_, rfl, wpAny_pure ⟨_, rfl, h out ro⟩⟩) _) (args_list_sort _)))
theorem sorted_tup_ints {l : Addr} {vs : List Value} {ns : List Int} {Q : Value → Shared → Prop} (tup : s.heap.IsTuple l vs.toArray) (whole : IntsAre vs ns) (few : vs.length ≤ sizeLine)
    (h : ∀ (out : Array Value) (ms : List Int), IntsAre out.toList ms → ms.Perm ns → ms.Pairwise (· ≤ ·) → Q (.ref (s.heap.objs.size + 1)) { s with heap := sortedAll s.heap vs out }) : wpAny (model prog w) A (call (.builtin "sorted") [.ref l]) Q E s :=
  sorted_tup (R := fun out => ∃ ms, IntsAre out.toList ms ∧ ms.Perm ns ∧ ms.Pairwise (· ≤ ·)) tup few (fun A t a P here k E => list_sort_treeAny here whole few fun out ms h1 h2 h3 => k out ⟨ms, h1, h2, h3⟩) fun out ⟨ms, h1, h2, h3⟩ => h out ms h1 h2 h3
end
end PLraw
namespace PL
open PySem L2
section
variable {X : Cx} {H0 : Hp} {pos : Pos} {K : Kf}
/-! ### never reached -/
@[reducible] def tDead : TSp := fun _ _ _ => False
theorem psdead {st : Stmt} : PSp' X H0 st tDead := ⟨fun _ _ _ _ _ _ ⟨_, _, _, _, _, _, h, _⟩ => h.elim⟩
theorem pssdead {sts : List Stmt} : PSsp X H0 sts tDead := ⟨fun _ _ _ _ _ _ ⟨_, _, _, _, _, _, h, _⟩ => h.elim⟩
theorem Callee.never {P : Program} {w : World} {mg : Str → Option Value} {base : Heap} {k : Nat} {x : Str} {st : Stmt} {N ps : List Str} (h : Here K mg x st ps) (S : FnScope N ps (defScope st)) : Callee P w K mg base (k + 1) x ps (fun _ _ _ _ => False) :=
  ok_of h S (fun _ _ _ _ z => z.elim) fun f cdv A outer s H E hr => ⟨_, pssdead, fun _ _ _ _ z => z.elim⟩
/-! ### x in xs -/
/-- x among the items, by == -/
def inL (x : PV) (l : List PV) : Bool := l.any fun y => flEq y x
theorem flat_rep {H : Hp} {p : PV} {v : V} (r : Rep K H p v) (f : flatP p = true) : flatV v = true := by
  cases r <;> first | rfl | cases f
theorem flat_reps {H : Hp} {ps : List PV} : ∀ {vs : List V}, Reps K H ps vs → ps.all flatP = true → vs.all flatV = true := by
  induction ps with
  | nil => intro vs r _; cases r; rfl
  | cons p ps ih =>
    intro vs r f
    cases r with
    | cons a b =>
      rw [List.all_cons, Bool.and_eq_true] at f ⊢
      exact ⟨flat_rep a f.1, ih b f.2⟩
theorem flat_eq {H : Hp} {p q : PV} {v u : V} (r : Rep K H p v) (r' : Rep K H q u) (f : flatP p = true) (f' : flatP q = true) : eqV v u = flEq p q := by
  cases r <;> cases r' <;> first | rfl | (cases f; done) | (cases f'; done) | skip
  all_goals first | (show (_ == _) = decide (_ = _); rw [Bool.eq_iff_iff]; simp; done) | skip
theorem in_rep {H : Hp} {x : PV} {v : V} (rx : Rep K H x v) (fx : flatP x = true) {ps : List PV} : ∀ {vs : List V}, Reps K H ps vs → ps.all flatP = true → inV v vs = inL x ps := by
  induction ps with
  | nil => intro vs r _; cases r; rfl
  | cons p ps ih =>
    intro vs r f
    cases r with
    | cons a b =>
      rw [List.all_cons, Bool.and_eq_true] at f
      show (eqV _ v || inV v _) = (flEq p x || inL x ps)
      rw [flat_eq a rx f.1 fx, ih b f.2]
theorem inL_strs {x : Str} : ∀ {ns : List Str}, inL (.str x) (ns.map PV.str) = decide (x ∈ ns)
  | [] => rfl
  | n :: ns => by
    show (decide (n = x) || inL (.str x) (ns.map PV.str)) = _
    rw [inL_strs, Bool.eq_iff_iff]
    simp [@eq_comm _ n x]
theorem inL_ints {x : Int} : ∀ {ns : List Int}, inL (.int x) (ns.map PV.int) = decide (x ∈ ns)
  | [] => rfl
  | n :: ns => by
    show (decide (n = x) || inL (.int x) (ns.map PV.int)) = _
    rw [inL_ints, Bool.eq_iff_iff]
    simp [@eq_comm _ n x]
theorem all_strs {ns : List Str} : (ns.map PV.str).all flatP = true := by simp [flatP]
theorem all_ints {ns : List Int} : (ns.map PV.int).all flatP = true := by simp [flatP]
def inP (K : Kf) (neg : Bool) : R2p := fun x y M Q => match y with
  | .tup l => flatP x = true ∧ l.all flatP = true ∧ ∃ b, inL x l = b ∧ Q (.bl (if neg then !b else b)) M
  | .ref a => ∃ l, rdL K M a l ∧ flatP x = true ∧ l.all flatP = true ∧ ∃ b, inL x l = b ∧ Q (.bl (if neg then !b else b)) M
  | _ => False
theorem in_sim {neg : Bool} : SimR K (rIn K neg) (inP K neg) := fun x y H px py M Q Qp rx ry m u k => by
  cases ry with
  | tup h r =>
    obtain ⟨f1, f2, b, e, q⟩ := u
    refine ⟨_, _, rfl, .inr h.t, flat_rep rx f1, flat_reps r f2, ?_⟩
    rw [in_rep rx f1 r f2, e]
    exact k _ _ _ _ (Tk.refl _ _) m (.bl _) q
  | ref a =>
    obtain ⟨l, h, f1, f2, b, e, q⟩ := u
    obtain ⟨vs, e1, r⟩ := h.to m
    refine ⟨_, _, rfl, .inl e1, flat_rep rx f1, flat_reps r f2, ?_⟩
    rw [in_rep rx f1 r f2, e]
    exact k _ _ _ _ (Tk.refl _ _) m (.bl _) q
  | _ => exact u.elim
theorem opIn (hK : X.K = K := by rfl) : OpP X (compareOp .In) (inP K false) := hK ▸ ⟨_, op_in_seq, in_sim⟩
theorem opNotIn (hK : X.K = K := by rfl) : OpP X (compareOp .NotIn) (inP K true) := hK ▸ ⟨_, op_notIn_seq, in_sim⟩
/-! ### isinstance of several -/
def isiTs (t : String) (ns : List String) : Bool := ns.any (isiT t)
theorem kit_any {K : Kf} {t : String} : ∀ {ns : List String}, ns.all (isiKit t) = true → PySem.W.kitAny K (.type t) (ns.map Value.type) = some (isiTs t ns)
  | [], _ => rfl
  | n :: ns, h => by
    rw [List.all_cons, Bool.and_eq_true] at h
    refine kitAny_cons (kit_ty (kit_isi h.1)) (fun e => ?_) fun e => ?_
    · rw [kit_any h.2]
      show some (isiTs t ns) = some (isiT t n || isiTs t ns)
      rw [e]; rfl
    · show (isiT t n || isiTs t ns) = true
      rw [e]; rfl
def isiTP (K : Kf) : RCp := fun xs M Q => match xs with
  | [x, .tup cs] => ∃ t ns, tyName K M x t ∧ cs = ns.map PV.ty ∧ ns.all (isiKit t) = true ∧ Q (.bl (isiTs t ns)) M
  | _ => False
theorem reps_tys {H : Hp} : ∀ {ns : List String} {vs : List V}, Reps K H (ns.map PV.ty) vs → Paired ClsV vs (ns.map Value.type)
  | [], _, .nil => .nil
  | _ :: _, _, .cons (.ty _) r => .cons (.ty _) (reps_tys r)
def rIsiTu (K : Kf) : List V → Hp → VK → Prop := fun xs H Q => ∃ (x : V) (tp : Addr) (cs : List V) (t : Value) (us : List Value) (b : Bool), xs = [x, .ref tp] ∧ SqT K H tp cs ∧ Paired ClsV cs us ∧ TyX K H x t ∧ PySem.W.kitAny K t us = some b ∧ Q (.bl b) H
theorem call_isiTu : CallR X (.builtin "isinstance") (rIsiTu X.K) := by
  rintro pins s σ H xs us Q I r ⟨x, tp, cs, t, ws, b, rfl, there, cls, ty, e, q⟩
  obtain ⟨ux, ut, rfl, rx, rt⟩ := vals2 r
  cases (show ut = Value.ref tp from rt)
  obtain ⟨P, Z, p, hx⟩ := kit_of I rx ty
  obtain ⟨its, rv, ⟨⟨oc, od, dt, sl⟩, at_tp, hc, n, hd⟩, _⟩ := I.tuple there
  obtain rfl := ClsV.all cls rv
  simp only at hc hd
  subst hc hd
  exact PySem.W.kia_tup Z I.kIn p at_tp e hx fun tk => ⟨.bl b, H, I.tok tk, rfl, q⟩
theorem cIsiT : CallP X (.builtin "isinstance") (isiTP X.K) := by
  refine ⟨_, call_isiTu, fun xs H ps M Q Qp rs m u k => ?_⟩
  cases rs with
  | nil => exact u.elim
  | cons r rr => cases rr with
    | nil => exact u.elim
    | cons r2 rr2 => cases rr2 with
      | cons _ _ => cases r2 <;> exact u.elim
      | nil => cases r2 with
        | tup h r3 =>
          obtain ⟨t, ns, h1, rfl, h2, q⟩ := u
          exact ⟨_, _, _, _, _, _, rfl, h.t, reps_tys r3, tyX_of m r h1, kit_any h2, k _ _ _ _ (Tk.refl _ _) m (.bl _) q⟩
        | _ => exact u.elim
theorem cIsiTK (hK : X.K = K := by rfl) : CallP X (.builtin "isinstance") (isiTP K) := hK ▸ cIsiT
/-! ### str(n) -/
def strIP : RCp := fun xs M Q => match xs with
  | [.int i] => i.natAbs.log2 < 1920 ∧ Q (.str (toString i)) M
  | _ => False
theorem cStr : CallP X (.type "str") strIP := by
  refine ⟨_, call_str_int, fun xs H ps M Q Qp rs m u k => ?_⟩
  cases rs with
  | nil => exact u.elim
  | cons r rr => cases rr with
    | cons _ _ => cases r <;> exact u.elim
    | nil => cases r with
      | int i => exact ⟨i, rfl, u.1, k _ _ _ _ (Tk.refl _ _) m (.str _) u.2⟩
      | _ => exact u.elim
/-! ### xs.pop(i) -/
def popAtP : RMp := fun x ps M Q => match x, ps with
  | .ref a, [.int i] => ∃ l y n, M a = some (.lst l) ∧ 0 ≤ i ∧ i < (l.length : Int) ∧ l.length ≤ sizeLine ∧ n = i.toNat ∧ l[n]? = some y ∧ Q y (updM M a (.lst (l.eraseIdx n)))
  | _, _ => False
theorem Reps.eraseIdx {H : Hp} : ∀ {ps : List PV} {vs : List V} (i : Nat), Reps K H ps vs → Reps K H (ps.eraseIdx i) (vs.eraseIdx i)
  | _, _, _, .nil => .nil
  | _, _, 0, .cons _ t => t
  | _, _, i + 1, .cons r t => .cons r (Reps.eraseIdx i t)
theorem mPopAt : MtP X "list.pop" popAtP := by
  refine ⟨_, mt_popAt, fun x xs H px ps M Q Qp rx rs m u k => ?_⟩
  cases rx with
  | ref a => cases rs with
    | nil => exact u.elim
    | cons r rr => cases rr with
      | cons _ _ => cases r <;> exact u.elim
      | nil => cases r with
        | int i =>
          obtain ⟨l, y, n, h, i0, i1, hz, rfl, hy, q⟩ := u
          obtain ⟨vs, e, rv⟩ := m _ _ h
          obtain ⟨v, e2, r2⟩ := rv.get hy
          obtain ⟨tk, mm⟩ := Tk_set (l := l) m e (rv.eraseIdx i.toNat)
          have hs : l.length < 2 ^ 62 := by
            have z : (sizeLine : Nat) < 2 ^ 62 := by rw [sizeLine_eq]; decide
            omega
          refine ⟨_, _, i, i.toNat, v, rfl, rfl, e, by omega, by omega, ?_, e2, k _ _ _ _ tk mm (r2.mono tk) q⟩
          rw [← rv.length]
          exact (ixN_seq (j := i.toNat) (by unfold ixN; rw [if_pos i0, if_pos i1])).1
        | _ => exact u.elim
  | _ => cases rs with
    | nil => exact u.elim
    | cons r rr => cases rr <;> exact u.elim
end
end PL

set_option Elab.async false
set_option linter.all false
set_option maxRecDepth 100000
set_option maxHeartbeats 2000000
/-! PL10: comprehensions with any targets, two fors; ranges as lists; sorted. -/
namespace PL
open PySem L2
section
variable {X : Cx} {H0 : Hp} {pos : Pos} {K : Kf}
/-! ### targets of a comprehension -/
abbrev Mt := PV → Option (List (Nat × PV))
abbrev Mts := List PV → Option (List (Nat × PV))
@[reducible] def setsP (σ : PSt) : List (Nat × PV) → PSt
  | [] => σ
  | a :: r => setsP (σ.set a.1 (some a.2)) r
def setsV (σ : L2.St) : List (Nat × V) → L2.St
  | [] => σ
  | a :: r => setsV (σ.set a.1 (some a.2)) r
inductive RepAs (K : Kf) (H : Hp) : List (Nat × PV) → List (Nat × V) → Prop
  | nil : RepAs K H [] []
  | cons {j p v as us} : Rep K H p v → RepAs K H as us → RepAs K H ((j, p) :: as) ((j, v) :: us)
theorem RepAs.append {H : Hp} {as : List (Nat × PV)} {us : List (Nat × V)} (h : RepAs K H as us) {bs : List (Nat × PV)} {ws : List (Nat × V)} (h2 : RepAs K H bs ws) : RepAs K H (as ++ bs) (us ++ ws) := by
  induction h with
  | nil => exact h2
  | cons a _ ih => exact .cons a ih
theorem RepAs.rel {H : Hp} {as : List (Nat × PV)} {us : List (Nat × V)} (h : RepAs K H as us) : ∀ {σp : PSt} {σ : L2.St}, RelS K H σp σ → RelS K H (setsP σp as) (setsV σ us) := by
  induction h with
  | nil => intro _ _ s; exact s
  | cons a _ ih => intro _ _ s; exact ih (s.set a _)
theorem setsV_append (σ : L2.St) (us ws : List (Nat × V)) : setsV σ (us ++ ws) = setsV (setsV σ us) ws := by
  induction us generalizing σ with
  | nil => rfl
  | cons a r ih => exact ih _
theorem RepAs.wipes {H : Hp} {as : List (Nat × PV)} {us : List (Nat × V)} (h : RepAs K H as us) {vs : List Nat} (ins : ∀ a ∈ as, a.1 ∈ vs) : ∀ σ : L2.St, L2.wipe (setsV σ us) vs = L2.wipe σ vs := by
  induction h with
  | nil => intro σ; rfl
  | @cons j p v as us a _ ih =>
    intro σ
    show L2.wipe (setsV (σ.set j (some v)) us) vs = _
    rw [ih fun b hb => ins b (List.mem_cons_of_mem _ hb)]
    exact wipe_set _ _ _ _ (ins (j, p) List.mem_cons_self)
structure TgOk (K : Kf) (g : TG) (mt : Mt) (vs : List Nat) : Prop where
  ok : ∀ p v H σ as Q, Rep K H p v → mt p = some as → (∀ us, RepAs K H as us → Q (setsV σ us) H) → g v σ H Q
  ins : ∀ p as, mt p = some as → ∀ a ∈ as, a.1 ∈ vs
structure TgsOk (K : Kf) (g : TGs) (mt : Mts) (vs : List Nat) : Prop where
  ok : ∀ p v H σ as Q, Reps K H p v → mt p = some as → (∀ us, RepAs K H as us → Q (setsV σ us) H) → g v σ H Q
  ins : ∀ p as, mt p = some as → ∀ a ∈ as, a.1 ∈ vs
@[reducible] def mtName (j : Nat) : Mt := fun p => some [(j, p)]
@[reducible] def mtNil : Mts := fun l => match l with | [] => some [] | _ => none
@[reducible] def mtCons (m : Mt) (ms : Mts) : Mts := fun l => match l with
  | [] => none
  | p :: r => match m p, ms r with | some a, some b => some (a ++ b) | _, _ => none
@[reducible] def mtTup (n : Nat) (ms : Mts) : Mt := fun p => match p with | .tup l => if l.length = n then ms l else none | _ => none
theorem tgName {j : Nat} {vs : List Nat} (h : j ∈ vs) : TgOk K (L2.gName j) (mtName j) vs where
  ok := fun p v H σ as Q r e k => by
    cases e
    exact k [(j, v)] (.cons r .nil)
  ins := fun p as e a ha => by
    cases e
    rw [List.mem_singleton] at ha
    subst ha; exact h
theorem tgsNil {vs : List Nat} : TgsOk K L2.gNil mtNil vs where
  ok := fun p v H σ as Q r e k => by
    cases r with
    | nil => cases e; exact ⟨rfl, k [] .nil⟩
    | cons _ _ => cases e
  ins := fun p as e a ha => by
    cases p with
    | nil => cases e; cases ha
    | cons _ _ => cases e
theorem tgsCons {g : TG} {gs : TGs} {m : Mt} {ms : Mts} {vs : List Nat} (h1 : TgOk K g m vs) (h2 : TgsOk K gs ms vs) : TgsOk K (L2.gCons g gs) (mtCons m ms) vs where
  ok := fun p v H σ as Q r e k => by
    cases r with
    | nil => cases e
    | @cons p v ps vs' r rr =>
      simp only [mtCons] at e
      cases ea : m p with
      | none => rw [ea] at e; cases e
      | some a =>
        cases eb : ms ps with
        | none => rw [ea, eb] at e; cases e
        | some b =>
          rw [ea, eb] at e
          cases e
          refine ⟨_, _, rfl, h1.ok p v H σ a _ r ea fun us hu => h2.ok ps vs' H _ b _ rr eb fun ws hw => ?_⟩
          rw [← setsV_append]
          exact k _ (hu.append hw)
  ins := fun p as e x hx => by
    cases p with
    | nil => cases e
    | cons p ps =>
      simp only [mtCons] at e
      cases ea : m p with
      | none => rw [ea] at e; cases e
      | some a =>
        cases eb : ms ps with
        | none => rw [ea, eb] at e; cases e
        | some b =>
          rw [ea, eb] at e
          cases e
          rcases List.mem_append.mp hx with q | q
          · exact h1.ins _ _ ea _ q
          · exact h2.ins _ _ eb _ q
theorem tgTup {n : Nat} {gs : TGs} {ms : Mts} {vs : List Nat} (h : TgsOk K gs ms vs) : TgOk K (L2.gTup K n gs) (mtTup n ms) vs where
  ok := fun p v H σ as Q r e k => by
    cases r with
    | tup hs rr =>
      simp only [mtTup] at e
      split at e
      · next hl => exact ⟨_, _, rfl, hs.t, by rw [← rr.length]; exact hl, h.ok _ _ H σ as Q rr e k⟩
      · cases e
    | _ => cases e
  ins := fun p as e x hx => by
    cases p with
    | tup l =>
      simp only [mtTup] at e
      split at e
      · exact h.ins _ _ e _ hx
      · cases e
    | _ => cases e
/-- one for, any target -/
@[reducible] def LcIn (mt : Mt) (tt : TTp) (te : TEp) (vs : List Nat) (σ : PSt) (Q : PVK) (items : List PV) (keep : PHp → Prop) (M1 : PHp) : Prop := ∀ Dl, M1 Dl = none → ∃ I : Nat → List PV → PHp → Prop, (∃ M5, Sub M5 (updM M1 Dl (.lst [])) ∧ I 0 [] M5) ∧
  (∀ i acc M, I i acc M → keep M) ∧ (∀ i x acc M, items[i]? = some x → I i acc M → ∃ as, mt x = some as ∧ LcTurn vs σ tt te Dl acc (I (i + 1)) (setsP (wipeP σ vs) as) M) ∧ ∀ acc M, I items.length acc M → Q (.ref Dl) M
@[reducible] def tLcG (wi : TIp) (mt : Mt) (tt : TTp) (te : TEp) (vs : List Nat) : TEp := fun σ M Q => wi σ M (LcIn mt tt te vs σ Q)
theorem lcR_conc {g : TG} {mt : Mt} {vs : List Nat} {wi : TIp} {tt : TTp} {te : TEp} (hg : TgOk K g mt vs) {R : PSt → PVK → List PV → (PHp → Prop) → PHp → Prop} (hR : ∀ σ Q items keep M1, R σ Q items keep M1 → LcIn mt tt te vs σ Q items keep M1)
    {σ : L2.St} {H : Hp} {Q : VK} (h : concE K H0 (fun σ M Q => wi σ M (R σ Q)) σ H Q) :
    L2.tLc (concI K H0 wi) g (concT K H0 tt) (concE K H0 te) vs σ H Q := by
  obtain ⟨σp, M, Qp, t, s, m, u, k⟩ := h
  refine ⟨σp, M, _, t, s, m, u, fun J H1 items keep M1 t1 m1 it u1 Dl hD => ?_⟩
  obtain ⟨I, ⟨M50, sb0, h0⟩, hk, hs, hd⟩ := hR _ _ _ _ _ u1 Dl (m1.fresh hD)
  have tn : Tk K H1 (upd H1 Dl (.lst [])) := .new hD
  have mn : RelM K (upd H1 Dl (.lst [])) (updM M1 Dl (.lst [])) := m1.put (m := .lst []) tn ⟨[], upd_same, .nil⟩
  refine ⟨fun i n H' => n = items.length - i ∧ i ≤ items.length ∧ ∃ acc Mq, Tk K H1 H' ∧ RelM K H' Mq ∧ I i acc Mq, ⟨_, rfl, Nat.zero_le _, [], M50, tn, mn.sub sb0, h0⟩, ?_⟩
  rintro i n H' ⟨rfl, hi, acc, Mq, tq, mq, hI⟩
  by_cases hlt : i < items.length
  · refine .inr ⟨it.go i H' Mq tq mq (hk _ _ _ hI) hlt, fun H2 => i + 1 ≤ items.length ∧ ∃ acc Mq, Tk K H1 H2 ∧ RelM K H2 Mq ∧ I (i + 1) acc Mq, fun H2 h => ⟨items.length - (i + 1), by omega, rfl, h.1, h.2⟩, fun x H2 y => ?_⟩
    obtain ⟨p, e1, r1, t2, mm⟩ := it.yld i H' Mq x H2 tq mq (hk _ _ _ hI) hlt y
    obtain ⟨as, ea, turn⟩ := hs i p acc Mq e1 hI
    refine hg.ok p x H2 _ as _ r1 ea fun us hu => ?_
    refine ⟨(hu.wipes (hg.ins _ _ ea) _).trans (wipe_wipe _ _), setsP (wipeP σp vs) as, Mq, _, t.trans (t1.trans (tq.trans t2)), hu.rel ((s.mono (t1.trans (tq.trans t2))).wipe _), mm _ mq, turn, fun b H3 M3 t3 m3 u3 => br_imp u3 (fun q => ?_) fun q => ?_⟩
    · refine ⟨_, M3, _, t.trans (t1.trans (tq.trans (t2.trans t3))), (hu.rel ((s.mono (t1.trans (tq.trans t2))).wipe _)).mono t3, m3, q, fun v H4 p4 M4 t4 m4 r4 q4 => ?_⟩
      obtain ⟨q1, q2, M5, sb, q5⟩ := q4
      obtain ⟨vs4, e4, r5⟩ := m4 _ _ q1
      obtain ⟨tk, m6⟩ := Tk_set (l := acc) m4 e4 (r5.snoc r4)
      exact ⟨vs4, e4, by rw [← r5.length]; exact q2, hlt, _, M5, tq.trans (t2.trans (t3.trans (t4.trans tk))), m6.sub sb, q5⟩
    · obtain ⟨M5, sb, q5⟩ := q
      exact ⟨hlt, _, M5, tq.trans (t2.trans t3), m3.sub sb, q5⟩
  · have e : i = items.length := by omega
    subst e
    exact .inl ⟨it.stop H' Mq tq mq (hk _ _ _ hI), k _ _ _ _ (t1.trans tq) mq (.ref Dl) (hd _ _ hI)⟩
theorem lcG_conc {g : TG} {mt : Mt} {vs : List Nat} {wi : TIp} {tt : TTp} {te : TEp} (hg : TgOk K g mt vs) {σ : L2.St} {H : Hp} {Q : VK} (h : concE K H0 (tLcG wi mt tt te vs) σ H Q) :
    L2.tLc (concI K H0 wi) g (concT K H0 tt) (concE K H0 te) vs σ H Q := lcR_conc hg (R := LcIn mt tt te vs) (fun _ _ _ _ _ h => h) h
/-- two fors -/
@[reducible] def Lc2In (vs1 : List Nat) (wi1 : TIp) (mt1 : Mt) (tt1 : TTp) (te : TEp) (Dl : Addr) (σ2 : PSt) (acc : List PV) (I : List PV → PHp → Prop) (M : PHp) : Prop := wi1 σ2 M fun items1 keep1 M4 => ∃ I1 : Nat → List PV → PHp → Prop, (∃ M5, Sub M5 M4 ∧ I1 0 acc M5) ∧
  (∀ i acc M, I1 i acc M → keep1 M) ∧ (∀ i x acc1 M, items1[i]? = some x → I1 i acc1 M → ∃ as, mt1 x = some as ∧ LcTurn vs1 σ2 tt1 te Dl acc1 (I1 (i + 1)) (setsP (wipeP σ2 vs1) as) M) ∧ ∀ acc1 M, I1 items1.length acc1 M → ∃ M7, Sub M7 M ∧ I acc1 M7
@[reducible] def tLc2 (wi : TIp) (mt : Mt) (tt : TTp) (wi1 : TIp) (mt1 : Mt) (tt1 : TTp) (te : TEp) (vs vs1 : List Nat) : TEp := fun σ M Q => wi σ M fun items keep M1 => ∀ Dl, M1 Dl = none → ∃ I : Nat → List PV → PHp → Prop, (∃ M5, Sub M5 (updM M1 Dl (.lst [])) ∧ I 0 [] M5) ∧
  (∀ i acc M, I i acc M → keep M) ∧ (∀ i x acc M, items[i]? = some x → I i acc M → ∃ as, mt x = some as ∧ tt (setsP (wipeP σ vs) as) M fun b M3 => br b (Lc2In vs1 wi1 mt1 tt1 te Dl (setsP (wipeP σ vs) as) acc (I (i + 1)) M3) (∃ M5, Sub M5 M3 ∧ I (i + 1) acc M5)) ∧
  ∀ acc M, I items.length acc M → Q (.ref Dl) M
theorem lc2_conc {g g1 : TG} {mt mt1 : Mt} {vs vs1 : List Nat} {wi wi1 : TIp} {tt tt1 : TTp} {te : TEp} (hg : TgOk K g mt vs) (hg1 : TgOk K g1 mt1 vs1) {σ : L2.St} {H : Hp} {Q : VK} (h : concE K H0 (tLc2 wi mt tt wi1 mt1 tt1 te vs vs1) σ H Q) :
    L2.tLc2 (concI K H0 wi) g (concT K H0 tt) (concI K H0 wi1) g1 (concT K H0 tt1) (concE K H0 te) vs vs1 σ H Q := by
  obtain ⟨σp, M, Qp, t, s, m, u, k⟩ := h
  refine ⟨σp, M, _, t, s, m, u, fun J H1 items keep M1 t1 m1 it u1 Dl hD => ?_⟩
  obtain ⟨I, ⟨M50, sb0, h0⟩, hk, hs, hd⟩ := u1 Dl (m1.fresh hD)
  have tn : Tk K H1 (upd H1 Dl (.lst [])) := .new hD
  have mn : RelM K (upd H1 Dl (.lst [])) (updM M1 Dl (.lst [])) := m1.put (m := .lst []) tn ⟨[], upd_same, .nil⟩
  refine ⟨fun i n H' => n = items.length - i ∧ i ≤ items.length ∧ ∃ acc Mq, Tk K H1 H' ∧ RelM K H' Mq ∧ I i acc Mq, ⟨_, rfl, Nat.zero_le _, [], M50, tn, mn.sub sb0, h0⟩, ?_⟩
  rintro i n H' ⟨rfl, hi, acc, Mq, tq, mq, hI⟩
  by_cases hlt : i < items.length
  · refine .inr ⟨it.go i H' Mq tq mq (hk _ _ _ hI) hlt, fun H2 => i + 1 ≤ items.length ∧ ∃ acc Mq, Tk K H1 H2 ∧ RelM K H2 Mq ∧ I (i + 1) acc Mq, fun H2 h => ⟨items.length - (i + 1), by omega, rfl, h.1, h.2⟩, fun x H2 y => ?_⟩
    obtain ⟨p, e1, r1, t2, mm⟩ := it.yld i H' Mq x H2 tq mq (hk _ _ _ hI) hlt y
    obtain ⟨as, ea, turn⟩ := hs i p acc Mq e1 hI
    refine hg.ok p x H2 _ as _ r1 ea fun us hu => ?_
    have s2 := hu.rel ((s.mono (t1.trans (tq.trans t2))).wipe vs)
    refine ⟨(hu.wipes (hg.ins _ _ ea) _).trans (wipe_wipe _ _), setsP (wipeP σp vs) as, Mq, _, t.trans (t1.trans (tq.trans t2)), s2, mm _ mq, turn, fun b H3 M3 t3 m3 u3 => br_imp u3 (fun q => ?_) fun q => ?_⟩
    · have T3 := t1.trans (tq.trans (t2.trans t3))
      refine ⟨_, M3, _, t.trans T3, s2.mono t3, m3, q, fun J1 H4 items1 keep1 M4 t4 m4 it1 u4 => ?_⟩
      obtain ⟨I1, ⟨M51, sb1, g0⟩, gk, gs, gd⟩ := u4
      refine ⟨fun j n H' => n = items1.length - j ∧ j ≤ items1.length ∧ ∃ acc Mq, Tk K H4 H' ∧ RelM K H' Mq ∧ I1 j acc Mq, ⟨_, rfl, Nat.zero_le _, acc, M51, Tk.refl _ _, m4.sub sb1, g0⟩, ?_⟩
      rintro j n' H5 ⟨rfl, hj, acc1, Mr, tr, mr, hI1⟩
      by_cases hlt1 : j < items1.length
      · refine .inr ⟨it1.go j H5 Mr tr mr (gk _ _ _ hI1) hlt1, fun H2 => j + 1 ≤ items1.length ∧ ∃ acc Mq, Tk K H4 H2 ∧ RelM K H2 Mq ∧ I1 (j + 1) acc Mq, fun H2 h => ⟨items1.length - (j + 1), by omega, rfl, h.1, h.2⟩, fun x1 H6 y1 => ?_⟩
        obtain ⟨p1, e2, r2, t6, mm6⟩ := it1.yld j H5 Mr x1 H6 tr mr (gk _ _ _ hI1) hlt1 y1
        obtain ⟨as1, ea1, turn1⟩ := gs j p1 acc1 Mr e2 hI1
        refine hg1.ok p1 x1 H6 _ as1 _ r2 ea1 fun us1 hu1 => ?_
        have s6 := hu1.rel ((s2.mono (t3.trans (t4.trans (tr.trans t6)))).wipe vs1)
        refine ⟨(hu1.wipes (hg1.ins _ _ ea1) _).trans (wipe_wipe _ _), _, Mr, _, t.trans (T3.trans (t4.trans (tr.trans t6))), s6, mm6 _ mr, turn1, fun b H7 M7 t7 m7 u7 => br_imp u7 (fun q7 => ?_) fun q7 => ?_⟩
        · refine ⟨_, M7, _, t.trans (T3.trans (t4.trans (tr.trans (t6.trans t7)))), s6.mono t7, m7, q7, fun v H8 p8 M8 t8 m8 r8 q8 => ?_⟩
          obtain ⟨q1, q2, M5, sb, q5⟩ := q8
          obtain ⟨vs4, e4, r5⟩ := m8 _ _ q1
          obtain ⟨tk, m6⟩ := Tk_set (l := acc1) m8 e4 (r5.snoc r8)
          exact ⟨vs4, e4, by rw [← r5.length]; exact q2, hlt1, _, M5, tr.trans (t6.trans (t7.trans (t8.trans tk))), m6.sub sb, q5⟩
        · obtain ⟨M5, sb, q5⟩ := q7
          exact ⟨hlt1, _, M5, tr.trans (t6.trans t7), m7.sub sb, q5⟩
      · have e : j = items1.length := by omega
        subst e
        obtain ⟨M7, sb, q5⟩ := gd _ _ hI1
        exact .inl ⟨it1.stop H5 Mr tr mr (gk _ _ _ hI1), hlt, _, M7, tq.trans (t2.trans (t3.trans (t4.trans tr))), mr.sub sb, q5⟩
    · obtain ⟨M5, sb, q5⟩ := q
      exact ⟨hlt, _, M5, tq.trans (t2.trans t3), m3.sub sb, q5⟩
  · have e : i = items.length := by omega
    subst e
    exact .inl ⟨it.stop H' Mq tq mq (hk _ _ _ hI), k _ _ _ _ (t1.trans tq) mq (.ref Dl) (hd _ _ hI)⟩
section
variable {elt iter tg iter1 tg1 : Expr} {ifs ifs1 : List Expr} {scope : Scope} {own : List (Str × Nat)} {wi wi1 : TIp} {tt tt1 : TTp} {te : TEp} {g g1 : TG} {mt mt1 : Mt}
theorem plcG (hc : X.calm = true) (hN : X.N.Nodup) (hi : PIp' X H0 tg iter wi) (ok : BlkOk X.N X.env.scope scope own) (hm : TgOk X.K g mt (own.map (·.2)))
    (hg : ∀ (s : Shared) (H : Hp) (C : Addr) (cl : List (Str × Addr)) (fp : List Addr), PG (X.blk s H scope (compEnvC scope cl C X.env) fp) tg g)
    (ht : ∀ (s : Shared) (H : Hp) (C : Addr) (cl : List (Str × Addr)) (fp : List Addr), PTsp (X.blk s H scope (compEnvC scope cl C X.env) fp) H0 ifs tt)
    (he : ∀ (s : Shared) (H : Hp) (C : Addr) (cl : List (Str × Addr)) (fp : List Addr), PEp (X.blk s H scope (compEnvC scope cl C X.env) fp) H0 elt te) (hs : ∀ x, foldedSetIterable iter X.env x = pure x := by intro _; rfl) :
    PEp X H0 (.ListComp elt [⟨tg, iter, ifs, 0⟩] scope pos) (tLcG wi mt tt te (own.map (·.2))) :=
  peW (pe_lc (tt := concT X.K H0 tt) (te := concE X.K H0 te) hc hN hi ok hg ht he hs) fun σ H Q h => lcG_conc hm h
theorem pssetlcG (i : Nat) {y : Str} {py spos : Pos} (hc : X.calm = true) (hN : X.N.Nodup) (hyl : X.env.scope.names.lookup y = some .local)
    (hsw : swapsWith (.ListComp elt [⟨tg, iter, ifs, 0⟩] scope pos) (some (.Name y py)) spos.line X.env = pure true) (hi : PIp' X H0 tg iter wi) (ok : BlkOk X.N X.env.scope scope own) (hm : TgOk X.K g mt (own.map (·.2)))
    (hg : ∀ (s : Shared) (H : Hp) (C : Addr) (cl : List (Str × Addr)) (fp : List Addr), PG (X.blk s H scope (compEnvC scope cl C X.env) fp) tg g)
    (ht : ∀ (s : Shared) (H : Hp) (C : Addr) (cl : List (Str × Addr)) (fp : List Addr), PTsp (X.blk s H scope (compEnvC scope cl C X.env) fp) H0 ifs tt)
    (he : ∀ (s : Shared) (H : Hp) (C : Addr) (cl : List (Str × Addr)) (fp : List Addr), PEp (X.blk s H scope (compEnvC scope cl C X.env) fp) H0 elt te) (hy : X.N[i]? = some y := by rfl) (hs : ∀ x, foldedSetIterable iter X.env x = pure x := by intro _; rfl) :
    PSp' X H0 (.Assign [.Name y py] (.ListComp elt [⟨tg, iter, ifs, 0⟩] scope pos) spos) (tAsg (tLcG wi mt tt te (own.map (·.2))) (gName i)) :=
  psW (ps_setLc (tt := concT X.K H0 tt) (te := concE X.K H0 te) hc hN hy hyl hsw hi ok hg ht he hs) fun D σ H ⟨σp, M, Dp, t, s, m, u, k⟩ =>
    lcG_conc hm ⟨σp, M, _, t, s, m, u, fun v H1 p M1 t1 m1 r u1 => k.nx _ _ _ _ t1 ((s.mono t1).set r i) m1 u1⟩
theorem plc2 (vs1 : List Nat) (hc : X.calm = true) (hN : X.N.Nodup) (hi : PIp' X H0 tg iter wi) (ok : BlkOk X.N X.env.scope scope own) (hm : TgOk X.K g mt (own.map (·.2))) (hv : ∀ i ∈ vs1, i ∈ own.map (·.2)) (hm1 : TgOk X.K g1 mt1 vs1)
    (hg : ∀ (s : Shared) (H : Hp) (C : Addr) (cl : List (Str × Addr)) (fp : List Addr), PG (X.blk s H scope (compEnvC scope cl C X.env) fp) tg g)
    (ht : ∀ (s : Shared) (H : Hp) (C : Addr) (cl : List (Str × Addr)) (fp : List Addr), PTsp (X.blk s H scope (compEnvC scope cl C X.env) fp) H0 ifs tt)
    (hi1 : ∀ (s : Shared) (H : Hp) (C : Addr) (cl : List (Str × Addr)) (fp : List Addr), PIp' (X.blk s H scope (compEnvC scope cl C X.env) fp) H0 tg1 iter1 wi1)
    (hgB : ∀ (s : Shared) (H : Hp) (C : Addr) (cl : List (Str × Addr)) (fp : List Addr), PG (X.blk s H scope (compEnvC scope cl C X.env) fp) tg1 g1)
    (ht1 : ∀ (s : Shared) (H : Hp) (C : Addr) (cl : List (Str × Addr)) (fp : List Addr), PTsp (X.blk s H scope (compEnvC scope cl C X.env) fp) H0 ifs1 tt1)
    (he : ∀ (s : Shared) (H : Hp) (C : Addr) (cl : List (Str × Addr)) (fp : List Addr), PEp (X.blk s H scope (compEnvC scope cl C X.env) fp) H0 elt te) (hs : ∀ x, foldedSetIterable iter X.env x = pure x := by intro _; rfl) (hs1 : ∀ env x, foldedSetIterable iter1 env x = pure x := by intro _ _; rfl) :
    PEp X H0 (.ListComp elt [⟨tg, iter, ifs, 0⟩, ⟨tg1, iter1, ifs1, 0⟩] scope pos) (tLc2 wi mt tt wi1 mt1 tt1 te (own.map (·.2)) vs1) :=
  peW (pe_lc2 (tt := concT X.K H0 tt) (tt1 := concT X.K H0 tt1) (wi1 := concI X.K H0 wi1) (te := concE X.K H0 te) hc hN hi ok hv hg ht hi1 hgB ht1 he hs hs1) fun σ H Q h => lc2_conc hm hm1 h
theorem pssetlc2 (i : Nat) (vs1 : List Nat) {y : Str} {py spos : Pos} (hc : X.calm = true) (hN : X.N.Nodup) (hyl : X.env.scope.names.lookup y = some .local)
    (hsw : swapsWith (.ListComp elt [⟨tg, iter, ifs, 0⟩, ⟨tg1, iter1, ifs1, 0⟩] scope pos) (some (.Name y py)) spos.line X.env = pure true) (hi : PIp' X H0 tg iter wi) (ok : BlkOk X.N X.env.scope scope own) (hm : TgOk X.K g mt (own.map (·.2))) (hv : ∀ i ∈ vs1, i ∈ own.map (·.2)) (hm1 : TgOk X.K g1 mt1 vs1)
    (hg : ∀ (s : Shared) (H : Hp) (C : Addr) (cl : List (Str × Addr)) (fp : List Addr), PG (X.blk s H scope (compEnvC scope cl C X.env) fp) tg g)
    (ht : ∀ (s : Shared) (H : Hp) (C : Addr) (cl : List (Str × Addr)) (fp : List Addr), PTsp (X.blk s H scope (compEnvC scope cl C X.env) fp) H0 ifs tt)
    (hi1 : ∀ (s : Shared) (H : Hp) (C : Addr) (cl : List (Str × Addr)) (fp : List Addr), PIp' (X.blk s H scope (compEnvC scope cl C X.env) fp) H0 tg1 iter1 wi1)
    (hgB : ∀ (s : Shared) (H : Hp) (C : Addr) (cl : List (Str × Addr)) (fp : List Addr), PG (X.blk s H scope (compEnvC scope cl C X.env) fp) tg1 g1)
    (ht1 : ∀ (s : Shared) (H : Hp) (C : Addr) (cl : List (Str × Addr)) (fp : List Addr), PTsp (X.blk s H scope (compEnvC scope cl C X.env) fp) H0 ifs1 tt1)
    (he : ∀ (s : Shared) (H : Hp) (C : Addr) (cl : List (Str × Addr)) (fp : List Addr), PEp (X.blk s H scope (compEnvC scope cl C X.env) fp) H0 elt te) (hy : X.N[i]? = some y := by rfl) (hs : ∀ x, foldedSetIterable iter X.env x = pure x := by intro _; rfl) (hs1 : ∀ env x, foldedSetIterable iter1 env x = pure x := by intro _ _; rfl) :
    PSp' X H0 (.Assign [.Name y py] (.ListComp elt [⟨tg, iter, ifs, 0⟩, ⟨tg1, iter1, ifs1, 0⟩] scope pos) spos) (tAsg (tLc2 wi mt tt wi1 mt1 tt1 te (own.map (·.2)) vs1) (gName i)) :=
  psW (ps_setLc2 (tt := concT X.K H0 tt) (tt1 := concT X.K H0 tt1) (wi1 := concI X.K H0 wi1) (te := concE X.K H0 te) hc hN hy hyl hsw hi ok hv hg ht hi1 hgB ht1 he hs hs1) fun D σ H ⟨σp, M, Dp, t, s, m, u, k⟩ =>
    lc2_conc hm hm1 ⟨σp, M, _, t, s, m, u, fun v H1 p M1 t1 m1 r u1 => k.nx _ _ _ _ t1 ((s.mono t1).set r i) m1 u1⟩
end
/-! ### list(range(..)), tuple(range(..)) -/
abbrev TRp := PSt → PHp → (Int → Int → PHp → Prop) → Prop
def concR (K : Kf) (H0 : Hp) (u : TRp) : L2.St → Hp → (Int → Int → Hp → Prop) → Prop := fun σ H Q => ∃ σp M Qp, Tk K H0 H ∧ RelS K H σp σ ∧ RelM K H M ∧ u σp M Qp ∧ ∀ a b H' M', Tk K H H' → RelM K H' M' → Qp a b M' → Q a b H'
abbrev PRp (X : Cx) (H0 : Hp) (e : Expr) (u : TRp) : Prop := PRg X e (concR X.K H0 u)
theorem prW {e : Expr} {t t' : L2.St → Hp → (Int → Int → Hp → Prop) → Prop} (h : PRg X e t) (w : ∀ σ H Q, t' σ H Q → t σ H Q) : PRg X e t' := fun pins s σ H Q I q => h pins s σ H Q I (w _ _ _ q)
@[reducible] def rg1 (ta : TEp) : TRp := fun σ M Q => ta σ M fun x M1 => match x with | .int n => Q 0 n M1 | _ => False
@[reducible] def rg2 (ta tb : TEp) : TRp := fun σ M Q => ta σ M fun x M1 => tb σ M1 fun y M2 => match x, y with | .int i, .int j => Q i j M2 | _, _ => False
variable {a b : Expr} {ta tb : TEp} {tr : TRp}
theorem prg1 {p : Pos} (hg : Gl X "range") (hm : X.mg "range" = none) (ha : PEp X H0 a ta) (na : starEach [a] X.env = (false, eval a X.env) :: starEach [] X.env := by rfl) : PRp X H0 (.Call (.Name "range" p) [a] [] pos) (rg1 ta) :=
  prW (prg_1 hg hm ha na) fun σ H Q ⟨σp, M, Qp, t, s, m, u, k⟩ => ⟨σp, M, _, t, s, m, u, fun x H1 px M1 t1 m1 rx u1 => by
    cases rx with
    | int n => exact ⟨n, rfl, k _ _ _ _ t1 m1 u1⟩
    | _ => exact u1.elim⟩
theorem prg2 {p : Pos} (hg : Gl X "range") (hm : X.mg "range" = none) (ha : PEp X H0 a ta) (hb : PEp X H0 b tb) (na : starEach [a, b] X.env = (false, eval a X.env) :: starEach [b] X.env := by rfl) (nb : starEach [b] X.env = (false, eval b X.env) :: starEach [] X.env := by rfl) (np : (backTo pos (starEach [b] X.env)).any (·.1) = false := by rfl) : PRp X H0 (.Call (.Name "range" p) [a, b] [] pos) (rg2 ta tb) :=
  prW (prg_2 hg hm ha hb na nb np) fun σ H Q ⟨σp, M, Qp, t, s, m, u, k⟩ => ⟨σp, M, _, t, s, m, u, fun x H1 px M1 t1 m1 rx u1 => ⟨σp, M1, _, t.trans t1, s.mono t1, m1, u1, fun y H2 py M2 t2 m2 ry u2 => by
    cases rx with
    | int i => cases ry with
      | int j => exact ⟨i, j, rfl, rfl, k _ _ _ _ (t1.trans t2) m2 u2⟩
      | _ => exact u2.elim
    | _ => exact u2.elim⟩⟩
theorem rgV_rep {H : Hp} (a b : Int) : Reps K H (rng a (b - a).toNat) (rgV a b) := by
  unfold rng rgV
  generalize (b - a).toNat = n
  have : ∀ l : List Nat, Reps K H (l.map fun (i : Nat) => PV.int (a + (i : Int))) (l.map fun i => V.int (a + (i : Nat))) := fun l => by
    induction l with
    | nil => exact .nil
    | cons i l ih => exact .cons (.int _) ih
  exact this _
@[reducible] def tLstRg (tr : TRp) : TEp := fun σ M Q => tr σ M fun a b M1 => RgOk a b ∧ ∀ q, M1 q = none → Q (.ref q) (updM M1 q (.lst (rng a (b - a).toNat)))
@[reducible] def tTupRg (tr : TRp) : TEp := fun σ M Q => tr σ M fun a b M1 => RgOk a b ∧ Q (.tup (rng a (b - a).toNat)) M1
theorem plistRg {e : Expr} {p : Pos} (hc : X.calm = true) (hg : Gl X "list") (hm : X.mg "list" = none) (he : PRp X H0 e tr) (na : starEach [e] X.env = (false, eval e X.env) :: starEach [] X.env := by rfl) : PEp X H0 (.Call (.Name "list" p) [e] [] pos) (tLstRg tr) :=
  peW (pe_listRg hc hg hm he na) fun σ H Q ⟨σp, M, Qp, t, s, m, u, k⟩ => ⟨σp, M, _, t, s, m, u, fun a b H1 M1 t1 m1 u1 => ⟨u1.1, fun q hq => new_lst m1 hq (rgV_rep a b) u1.2 fun v H2 p M2 t2 => k v H2 p M2 (t1.trans t2)⟩⟩
theorem ptupRg {e : Expr} {p : Pos} (hc : X.calm = true) (hg : Gl X "tuple") (hm : X.mg "tuple" = none) (he : PRp X H0 e tr) (na : starEach [e] X.env = (false, eval e X.env) :: starEach [] X.env := by rfl) : PEp X H0 (.Call (.Name "tuple" p) [e] [] pos) (tTupRg tr) :=
  peW (pe_tupRgX hc hg hm he na) fun σ H Q ⟨σp, M, Qp, t, s, m, u, k⟩ => ⟨σp, M, _, t, s, m, u, fun a b H1 M1 t1 m1 u1 => ⟨u1.1, new_tup m1 (rgV_rep a b) u1.2 fun v H2 p M2 t2 => k v H2 p M2 (t1.trans t2)⟩⟩
/-! ### tests by truth -/
def truP (K : Kf) (x : PV) (M : PHp) (Q : Bool → Prop) : Prop := match x with
  | .non => Q false
  | .bl b => Q b
  | .int i => Q (i != 0)
  | .str z => z.length ≤ sizeLine ∧ Q ((z.length : Int) != 0)
  | .tup l => Q (!l.isEmpty)
  | .ref a => ∃ l, rdL K M a l ∧ Q (!l.isEmpty)
  | _ => False
@[reducible] def tTru (K : Kf) (te : TEp) : TTp := fun σ M Q => te σ M fun x M1 => truP K x M1 fun b => Q b M1
theorem Reps.isEmpty {H : Hp} {l : List PV} {vs : List V} (r : Reps K H l vs) : vs.isEmpty = l.isEmpty := by
  cases r <;> rfl
theorem pttru (ha : PEp X H0 a ta) (he : ∀ whole, isTrue a X.env whole = (do let v ← whole; standAt a.pos; holding [v] (truthy v)) := by intro _; rfl) : PTp X H0 a (tTru X.K ta) :=
  ptW (pt_truth ha he) fun σ H Q ⟨σp, M, Qp, t, s, m, u, k⟩ => ⟨σp, M, _, t, s, m, u, fun x H1 px M1 t1 m1 rx u1 => by
    cases rx with
    | non => exact ⟨_, rfl, k _ _ _ t1 m1 u1⟩
    | bl b => exact ⟨_, rfl, k _ _ _ t1 m1 u1⟩
    | int i => exact ⟨_, rfl, k _ _ _ t1 m1 u1⟩
    | str z => exact ⟨_, ⟨u1.1, rfl⟩, k _ _ _ t1 m1 u1.2⟩
    | tup h r => exact ⟨_, .inr (.inl ⟨_, h.t, rfl⟩), by rw [r.isEmpty]; exact k _ _ _ t1 m1 u1⟩
    | ref a =>
      obtain ⟨l, h, q⟩ := u1
      obtain ⟨vs, e, r⟩ := h.to m1
      exact ⟨_, .inl ⟨_, e, rfl⟩, by rw [r.isEmpty]; exact k _ _ _ t1 m1 q⟩
    | _ => exact u1.elim⟩
/-! ### a < b < c -/
theorem pchain {op op' : CmpOp} {r r' : R2p} {c : Expr} {tc : TEp} (ho : OpP X (compareOp op) r) (ho' : OpP X (compareOp op') r') (ha : PEp X H0 a ta) (hb : PEp X H0 b tb) (hc : PEp X H0 c tc)
    (hm : lastMarks [op, op'] [b, c] = false := by with_unfolding_all rfl) : PEp X H0 (.Compare a [op, op'] [b, c] pos) (PL.tChain r r' ta tb tc) := by
  obtain ⟨r0, h1, h2⟩ := ho
  obtain ⟨r1, h3, h4⟩ := ho'
  refine peW (pe_chain h1 h3 ha hb hc hm) fun σ H Q ⟨σp, M, Qp, t, s, m, u, k⟩ => ⟨σp, M, _, t, s, m, u, fun x H1 px M1 t1 m1 rx u1 => ⟨σp, M1, _, t.trans t1, s.mono t1, m1, u1, fun y H2 py M2 t2 m2 ry u2 => ?_⟩⟩
  refine h2 x y H2 px py M2 _ _ (rx.mono t2) ry m2 u2 fun z H3 pz M3 t3 m3 rz u3 => ?_
  cases rz with
  | bl k0 =>
    refine ⟨k0, rfl, br_imp u3 (fun q => ?_) fun q => k _ _ _ _ (t1.trans (t2.trans t3)) m3 (.bl _) q⟩
    exact ⟨σp, M3, _, t.trans (t1.trans (t2.trans t3)), s.mono (t1.trans (t2.trans t3)), m3, q, fun w H4 pw M4 t4 m4 rw u4 => h4 y w H4 py pw M4 _ _ (ry.mono (t3.trans t4)) rw m4 u4 fun v H5 p M5 t5 => k v H5 p M5 (t1.trans (t2.trans (t3.trans (t4.trans t5))))⟩
  | _ => exact u3.elim
theorem ptchain {op op' : CmpOp} {r r' : R2p} {c : Expr} {tc : TEp} (ho : OpP X (compareOp op) r) (ho' : OpP X (compareOp op') r') (ha : PEp X H0 a ta) (hb : PEp X H0 b tb) (hc : PEp X H0 c tc)
    (hm : lastMarks [op, op'] [b, c] = false := by with_unfolding_all rfl) : PTp X H0 (.Compare a [op, op'] [b, c] pos) (tB (PL.tChain r r' ta tb tc)) := by
  obtain ⟨r0, h1, h2⟩ := ho
  obtain ⟨r1, h3, h4⟩ := ho'
  refine ptW (pt_chain h1 h3 ha hb hc hm) fun σ H Q h => ?_
  obtain ⟨σp, M, Qp, t, s, m, u, k⟩ := tB_conc h
  refine ⟨σp, M, _, t, s, m, u, fun x H1 px M1 t1 m1 rx u1 => ⟨σp, M1, _, t.trans t1, s.mono t1, m1, u1, fun y H2 py M2 t2 m2 ry u2 => ?_⟩⟩
  refine h2 x y H2 px py M2 _ _ (rx.mono t2) ry m2 u2 fun z H3 pz M3 t3 m3 rz u3 => ?_
  cases rz with
  | bl k0 =>
    refine ⟨k0, rfl, br_imp u3 (fun q => ?_) fun q => k _ _ _ _ (t1.trans (t2.trans t3)) m3 (.bl _) q⟩
    exact ⟨σp, M3, _, t.trans (t1.trans (t2.trans t3)), s.mono (t1.trans (t2.trans t3)), m3, q, fun w H4 pw M4 t4 m4 rw u4 => h4 y w H4 py pw M4 _ _ (ry.mono (t3.trans t4)) rw m4 u4 fun v H5 p M5 t5 => k v H5 p M5 (t1.trans (t2.trans (t3.trans (t4.trans t5))))⟩
  | _ => exact u3.elim
/-! ### sorted -/
def rSortTu (K : Kf) : List V → Hp → VK → Prop := fun vs H Q => ∃ (a : Addr) (ns : List Int), vs = [V.ref a] ∧ (SqT K H a (ns.map V.int) ∨ SqL K H a (ns.map V.int)) ∧ ∀ (ms : List Int) (p : Addr), ms.Perm ns → ms.Pairwise (· ≤ ·) → H p = none → Q (.ref p) (upd H p (.lst (ms.map V.int)))
theorem cr_sortTu : CallR X (.builtin "sorted") (rSortTu X.K) := by
  rintro pins s σ H vs us Q I r ⟨a, ns, rfl, here, q⟩
  have fin : ∀ (its : List Value) (out : Array Value) (ms : List Int), ns.length ≤ sizeLine → PyProof.Rows.IntsAre out.toList ms → ms.Perm ns → ms.Pairwise (· ≤ ·) → EP X pins σ Q (.ref (s.heap.objs.size + 1)) { s with heap := PyProof.Rows.sortedAll s.heap its out } := fun its out ms few h1 h2 h3 => by
    obtain ⟨ep, at_new⟩ := PyProof.Rows.sortedAll_at s.heap its out
    refine ⟨.ref _, upd H (s.heap.objs.size + 1) (.lst (ms.map V.int)), I.laid (t' := s.toks) (fun _ _ => PyProof.Rows.sortedAll_old) (Nat.le_succ _) ⟨?_, out.toList, ep, vals_of_ints h1, at_new⟩, rfl, q ms _ h2 h3 (I.hok.fresh (Nat.le_succ _))⟩
    rw [List.length_map, h2.length_eq]; exact few
  rw [Vals.ref1 r]
  rcases here with here | here
  · obtain ⟨its, rv, tup, few⟩ := I.tuple here
    rw [List.length_map] at few
    exact PLraw.sorted_tup_ints tup rv.ints (by rw [← rv.length, List.length_map]; exact few) fun out ms h1 h2 h3 => fin its out ms few h1 h2 h3
  · obtain ⟨its, rv, pl, few⟩ := I.list here
    rw [List.length_map] at few
    exact PyProof.Rows.sorted_intsAny pl.isList rv.ints (by rw [← rv.length, List.length_map]; exact few) fun out ms h1 h2 h3 => fin its out ms few h1 h2 h3
/-- whole numbers -/
def sortIP (K : Kf) : RCp := fun xs M Q => ∃ ns : List Int, (match xs with | [.tup l] => l = ns.map PV.int | [.ref a] => rdL K M a (ns.map PV.int) | _ => False) ∧ ∀ (ms : List Int) (p : Addr), ms.Perm ns → ms.Pairwise (· ≤ ·) → M p = none → Q (.ref p) (updM M p (.lst (ms.map PV.int)))
theorem cSortI : CallP X (.builtin "sorted") (sortIP X.K) := by
  refine ⟨_, cr_sortTu, fun xs H ps M Q Qp rs m u k => ?_⟩
  obtain ⟨ns, u, q⟩ := u
  cases rs with
  | nil => exact u.elim
  | cons r rr => cases rr with
    | cons _ _ => cases r <;> exact u.elim
    | nil => cases r with
      | tup h r =>
        subst u
        have e := r.ints
        subst e
        exact ⟨_, ns, rfl, .inl h.t, fun ms p h1 h2 hp => new_lst m hp Reps.of_ints (fun p hp => q ms p h1 h2 hp) k⟩
      | ref a =>
        obtain ⟨vs, e, r⟩ := u.to m
        have e2 := r.ints
        subst e2
        exact ⟨_, ns, rfl, .inr e, fun ms p h1 h2 hp => new_lst m hp Reps.of_ints (fun p hp => q ms p h1 h2 hp) k⟩
      | _ => exact u.elim
theorem cSortIK (hK : X.K = K := by rfl) : CallP X (.builtin "sorted") (sortIP K) := hK ▸ cSortI
theorem g_ins {x : Str} {ns : List Str} {R : Bool → Prop} (q : R (decide (x ∈ ns))) : flatP (.str x) = true ∧ (ns.map PV.str).all flatP = true ∧ ∃ b, inL (.str x) (ns.map PV.str) = b ∧ R b := ⟨rfl, all_strs, _, inL_strs, q⟩
theorem g_ini {x : Int} {ns : List Int} {R : Bool → Prop} (q : R (decide (x ∈ ns))) : flatP (.int x) = true ∧ (ns.map PV.int).all flatP = true ∧ ∃ b, inL (.int x) (ns.map PV.int) = b ∧ R b := ⟨rfl, all_ints, _, inL_ints, q⟩
theorem g_isiL {M : PHp} {a : Addr} {l : List PV} {n : String} {R : String → Prop} (h : M a = some (.lst l)) (hk : isiKit "list" n = true) (q : R "list") : ∃ t, tyName K M (.ref a) t ∧ isiKit t n = true ∧ R t := ⟨"list", .inl ⟨_, h, rfl⟩, hk, q⟩
theorem g_isiD {M : PHp} {a : Addr} {l : List (Key × PV)} {n : String} {R : String → Prop} (h : M a = some (.dK l)) (hk : isiKit "dict" n = true) (q : R "dict") : ∃ t, tyName K M (.ref a) t ∧ isiKit t n = true ∧ R t := ⟨"dict", .inr ⟨_, h, rfl⟩, hk, q⟩
end
end PL

set_option Elab.async false
set_option linter.all false
set_option maxRecDepth 100000
set_option maxHeartbeats 2000000
/-! PL11: comprehensions whose turns leave the heap alone; a tuple's index; slices. -/
namespace PL
open PySem L2
/-- f 0, .., f (n - 1) -/
def mk {α : Type} (n : Nat) (f : Nat → α) : List α := (List.range n).map f
section
variable {α β : Type} {n : Nat} {f g : Nat → α}
theorem mk_len : (mk n f).length = n := by unfold mk; simp
theorem mk_at {i : Nat} (h : i < n) : (mk n f)[i]? = some (f i) := by unfold mk; rw [List.getElem?_map, List.getElem?_range h]; rfl
theorem mk_get {i : Nat} {x : α} (h : (mk n f)[i]? = some x) : i < n ∧ x = f i := by
  have hi : i < n := by
    have := (List.getElem?_eq_some_iff.mp h).1
    rw [mk_len] at this; exact this
  rw [mk_at hi] at h
  exact ⟨hi, (Option.some.inj h).symm⟩
theorem mk_congr (h : ∀ i, i < n → f i = g i) : mk n f = mk n g := by
  unfold mk
  exact List.map_congr_left fun i hi => h i (List.mem_range.mp hi)
theorem mk_map (k : α → β) : (mk n f).map k = mk n (fun i => k (f i)) := by unfold mk; rw [List.map_map]; rfl
theorem mk_succ : mk (n + 1) f = mk n f ++ [f n] := by unfold mk; rw [List.range_succ, List.map_append]; rfl
theorem mk_zero : mk 0 f = [] := rfl
theorem mk_mem {x : α} : x ∈ mk n f ↔ ∃ i, i < n ∧ f i = x := by
  unfold mk
  rw [List.mem_map]
  exact ⟨fun ⟨i, h, e⟩ => ⟨i, List.mem_range.mp h, e⟩, fun ⟨i, h, e⟩ => ⟨i, List.mem_range.mpr h, e⟩⟩
theorem mk_of (l : List α) (d : α) : l = mk l.length fun i => l.getD i d := by
  apply List.ext_getElem?
  intro i
  by_cases h : i < l.length
  · rw [mk_at h, List.getElem?_eq_getElem h, List.getD_eq_getElem?_getD, List.getElem?_eq_getElem h]; rfl
  · rw [List.getElem?_eq_none (by omega), List.getElem?_eq_none (by rw [mk_len]; omega)]
theorem mk_get_iff {l : List α} : l = mk n f ↔ l.length = n ∧ ∀ i x, l[i]? = some x → x = f i := by
  constructor
  · intro e
    subst e
    exact ⟨mk_len, fun i x h => (mk_get h).2⟩
  · rintro ⟨h1, h2⟩
    apply List.ext_getElem?
    intro i
    by_cases h : i < l.length
    · rw [mk_at (h1 ▸ h), List.getElem?_eq_getElem h, h2 i _ (List.getElem?_eq_getElem h)]
    · rw [List.getElem?_eq_none (by omega), List.getElem?_eq_none (by rw [mk_len]; omega)]
theorem mk_inj (h : mk n f = mk n g) : ∀ i, i < n → f i = g i := fun i hi => by
  have := congrArg (·[i]?) h
  simp only [mk_at hi] at this
  exact Option.some.inj this
theorem mk_set {i : Nat} {x : α} : (mk n f).set i x = mk n (fun j => if j = i then x else f j) := by
  apply List.ext_getElem?
  intro j
  rw [List.getElem?_set]
  by_cases hj : j < n
  · rw [mk_at hj, mk_at hj, mk_len]
    by_cases e : i = j
    · subst e; rw [if_pos rfl, if_pos hj, if_pos rfl]
    · rw [if_neg e, if_neg (Ne.symm e)]
  · have h1 : (mk n f)[j]? = none := List.getElem?_eq_none (by rw [mk_len]; omega)
    have h2 : (mk n (fun j => if j = i then x else f j))[j]? = none := List.getElem?_eq_none (by rw [mk_len]; omega)
    rw [h1, h2, mk_len]
    split
    · rw [if_neg (by omega)]
    · rfl
end
theorem rng_mk (n : Nat) : rng 0 n = mk n fun i => PV.int (i : Int) := by
  unfold rng mk
  refine List.map_congr_left fun i _ => ?_
  show PV.int (0 + (i : Int)) = PV.int (i : Int)
  rw [Int.zero_add]
section
variable {X : Cx} {H0 : Hp} {pos : Pos} {K : Kf}
/-- a comprehension whose turns leave the heap (but for what they add): f i by the turn -/
@[reducible] def LcP (mt : Mt) (te : TEp) (vs : List Nat) (σ : PSt) (Q : PVK) (items : List PV) (keep : PHp → Prop) (M1 : PHp) : Prop := ∃ f : Nat → PV, items.length ≤ 16777216 ∧ (∀ M2, Sub M1 M2 → keep M2) ∧
  (∀ i x M2 (Q2 : PVK), items[i]? = some x → Sub M1 M2 → (∀ M4, Sub M2 M4 → Q2 (f i) M4) → ∃ as, mt x = some as ∧ te (setsP (wipeP σ vs) as) M2 Q2) ∧ ∀ Dl l, M1 Dl = none → l = mk items.length f → Q (.ref Dl) (updM M1 Dl (.lst l))
theorem LcP.to {mt : Mt} {te : TEp} {vs : List Nat} {σ : PSt} {Q : PVK} {items : List PV} {keep : PHp → Prop} {M1 : PHp} (h : LcP mt te vs σ Q items keep M1) : LcIn mt tYes te vs σ Q items keep M1 := by
  obtain ⟨f, few, hk, ht, hd⟩ := h
  intro Dl hD
  refine ⟨fun i acc M => M = updM M1 Dl (.lst acc) ∧ acc = mk i f, ⟨_, .refl _, rfl, rfl⟩, ?_, ?_, ?_⟩
  · rintro i acc M ⟨rfl, _⟩
    exact hk _ (.new hD)
  · rintro i x acc M hx ⟨rfl, rfl⟩
    have hi := (List.getElem?_eq_some_iff.mp hx).1
    have go := ht i x (updM M1 Dl (.lst (mk i f))) (fun y M4 => M4 Dl = some (.lst (mk i f)) ∧ (mk i f).length < sizeLine ∧ ∃ M5, Sub M5 (updM M4 Dl (.lst (mk i f ++ [y]))) ∧ M5 = updM M1 Dl (.lst (mk i f ++ [y])) ∧ mk i f ++ [y] = mk (i + 1) f) hx (.new hD) fun M4 sb => by
      refine ⟨sb _ _ updM_same, by rw [mk_len, sizeLine_eq]; omega, updM M1 Dl (.lst (mk i f ++ [f i])), ?_, rfl, mk_succ.symm⟩
      have := (sb.upd (p := Dl) (o := .lst (mk i f ++ [f i])))
      rw [updM_updM] at this
      exact this
    obtain ⟨as, e, q⟩ := go
    exact ⟨as, e, br_tt q⟩
  · rintro acc M ⟨rfl, rfl⟩
    exact hd _ _ hD rfl
/-- the same with a test that leaves the heap: b i by the turn -/
@[reducible] def LcF (mt : Mt) (tt : TTp) (te : TEp) (vs : List Nat) (σ : PSt) (Q : PVK) (items : List PV) (keep : PHp → Prop) (M1 : PHp) : Prop := ∃ (b : Nat → Bool) (f : Nat → PV), items.length ≤ 16777216 ∧ (∀ M2, Sub M1 M2 → keep M2) ∧
  (∀ i x M2 (Q3 : Bool → PHp → Prop), items[i]? = some x → Sub M1 M2 → (∀ M4, Sub M2 M4 → Q3 (b i) M4) → ∃ as, mt x = some as ∧ tt (setsP (wipeP σ vs) as) M2 Q3) ∧
  (∀ i x M2 (Q2 : PVK), items[i]? = some x → b i = true → Sub M1 M2 → (∀ M4, Sub M2 M4 → Q2 (f i) M4) → ∃ as, mt x = some as ∧ te (setsP (wipeP σ vs) as) M2 Q2) ∧ ∀ Dl l, M1 Dl = none → l = ((List.range items.length).filter b).map f → Q (.ref Dl) (updM M1 Dl (.lst l))
theorem flt_len {b : Nat → Bool} {f : Nat → PV} (i : Nat) : (((List.range i).filter b).map f).length ≤ i := by
  rw [List.length_map]
  have := List.length_filter_le b (List.range i)
  rw [List.length_range] at this; exact this
theorem flt_succ {b : Nat → Bool} {f : Nat → PV} (i : Nat) : ((List.range (i + 1)).filter b).map f = ((List.range i).filter b).map f ++ (if b i = true then [f i] else []) := by
  rw [List.range_succ, List.filter_append, List.map_append]
  congr 1
  by_cases h : b i = true
  · rw [if_pos h, List.filter_cons_of_pos h]; rfl
  · rw [if_neg h, List.filter_cons_of_neg h]; rfl
theorem LcF.to {mt : Mt} {tt : TTp} {te : TEp} {vs : List Nat} {σ : PSt} {Q : PVK} {items : List PV} {keep : PHp → Prop} {M1 : PHp} (h : LcF mt tt te vs σ Q items keep M1) : LcIn mt tt te vs σ Q items keep M1 := by
  obtain ⟨b, f, few, hk, hb, ht, hd⟩ := h
  intro Dl hD
  refine ⟨fun i acc M => M = updM M1 Dl (.lst acc) ∧ acc = ((List.range i).filter b).map f, ⟨_, .refl _, rfl, rfl⟩, ?_, ?_, ?_⟩
  · rintro i acc M ⟨rfl, _⟩
    exact hk _ (.new hD)
  · rintro i x acc M hx ⟨rfl, ha⟩
    have hi := (List.getElem?_eq_some_iff.mp hx).1
    have hz := flt_len (b := b) (f := f) i
    have hs := flt_succ (b := b) (f := f) i
    rw [← ha] at hz hs
    have hP : ∀ M4, Sub (updM M1 Dl (.lst acc)) M4 → br (b i) (∃ as, mt x = some as ∧ te (setsP (wipeP σ vs) as) M4 fun y M4 => M4 Dl = some (.lst acc) ∧ acc.length < sizeLine ∧ ∃ M5, Sub M5 (updM M4 Dl (.lst (acc ++ [y]))) ∧ M5 = updM M1 Dl (.lst (acc ++ [y])) ∧ acc ++ [y] = ((List.range (i + 1)).filter b).map f)
        (∃ M5, Sub M5 M4 ∧ M5 = updM M1 Dl (.lst acc) ∧ acc = ((List.range (i + 1)).filter b).map f) := fun M4 sb => by
      cases hbi : b i with
      | true =>
        refine br_tt (ht i x M4 _ hx hbi (Sub.trans (.new hD) sb) fun M6 sb2 => ?_)
        refine ⟨sb2 _ _ (sb _ _ updM_same), by rw [sizeLine_eq]; omega, updM M1 Dl (.lst (acc ++ [f i])), ?_, rfl, by rw [hs, if_pos hbi]⟩
        have := ((sb.trans sb2).upd (p := Dl) (o := .lst (acc ++ [f i])))
        rw [updM_updM] at this
        exact this
      | false => exact br_ff ⟨_, sb, rfl, by rw [hs, if_neg (by rw [hbi]; exact Bool.false_ne_true), List.append_nil]⟩
    obtain ⟨as, e, q⟩ := hb i x _ (fun c M4 => br c (te (setsP (wipeP σ vs) ((mt x).getD [])) M4 fun y M4 => M4 Dl = some (.lst acc) ∧ acc.length < sizeLine ∧ ∃ M5, Sub M5 (updM M4 Dl (.lst (acc ++ [y]))) ∧ M5 = updM M1 Dl (.lst (acc ++ [y])) ∧ acc ++ [y] = ((List.range (i + 1)).filter b).map f)
        (∃ M5, Sub M5 M4 ∧ M5 = updM M1 Dl (.lst acc) ∧ acc = ((List.range (i + 1)).filter b).map f)) hx (.new hD) fun M4 sb => by
      have z := hP M4 sb
      cases hbi : b i with
      | true =>
        rw [hbi] at z
        obtain ⟨as, e, q⟩ := br_ite z
        rw [e]; exact br_tt q
      | false =>
        rw [hbi] at z
        exact br_ff (br_ite z)
    rw [e] at q
    exact ⟨as, e, q⟩
  · rintro acc M ⟨rfl, rfl⟩
    exact hd _ _ hD rfl
section
variable {elt iter tg : Expr} {ifs : List Expr} {scope : Scope} {own : List (Str × Nat)} {wi : TIp} {tt : TTp} {te : TEp} {g : TG} {mt : Mt}
@[reducible] def tLcP (wi : TIp) (mt : Mt) (te : TEp) (vs : List Nat) : TEp := fun σ M Q => wi σ M (LcP mt te vs σ Q)
@[reducible] def tLcF (wi : TIp) (mt : Mt) (tt : TTp) (te : TEp) (vs : List Nat) : TEp := fun σ M Q => wi σ M (LcF mt tt te vs σ Q)
theorem plcP (hc : X.calm = true) (hN : X.N.Nodup) (hi : PIp' X H0 tg iter wi) (ok : BlkOk X.N X.env.scope scope own) (hm : TgOk X.K g mt (own.map (·.2)))
    (hg : ∀ (s : Shared) (H : Hp) (C : Addr) (cl : List (Str × Addr)) (fp : List Addr), PG (X.blk s H scope (compEnvC scope cl C X.env) fp) tg g)
    (he : ∀ (s : Shared) (H : Hp) (C : Addr) (cl : List (Str × Addr)) (fp : List Addr), PEp (X.blk s H scope (compEnvC scope cl C X.env) fp) H0 elt te) (hs : ∀ x, foldedSetIterable iter X.env x = pure x := by intro _; rfl) :
    PEp X H0 (.ListComp elt [⟨tg, iter, [], 0⟩] scope pos) (tLcP wi mt te (own.map (·.2))) :=
  peW (pe_lc (tt := concT X.K H0 tYes) (te := concE X.K H0 te) hc hN hi ok hg (fun _ _ _ _ _ => ptsnil) he hs) fun σ H Q h => lcR_conc hm (fun _ _ _ _ _ q => LcP.to q) h
theorem pssetlcP (i : Nat) {y : Str} {py spos : Pos} (hc : X.calm = true) (hN : X.N.Nodup) (hyl : X.env.scope.names.lookup y = some .local)
    (hsw : swapsWith (.ListComp elt [⟨tg, iter, [], 0⟩] scope pos) (some (.Name y py)) spos.line X.env = pure true) (hi : PIp' X H0 tg iter wi) (ok : BlkOk X.N X.env.scope scope own) (hm : TgOk X.K g mt (own.map (·.2)))
    (hg : ∀ (s : Shared) (H : Hp) (C : Addr) (cl : List (Str × Addr)) (fp : List Addr), PG (X.blk s H scope (compEnvC scope cl C X.env) fp) tg g)
    (he : ∀ (s : Shared) (H : Hp) (C : Addr) (cl : List (Str × Addr)) (fp : List Addr), PEp (X.blk s H scope (compEnvC scope cl C X.env) fp) H0 elt te) (hy : X.N[i]? = some y := by rfl) (hs : ∀ x, foldedSetIterable iter X.env x = pure x := by intro _; rfl) :
    PSp' X H0 (.Assign [.Name y py] (.ListComp elt [⟨tg, iter, [], 0⟩] scope pos) spos) (tAsg (tLcP wi mt te (own.map (·.2))) (gName i)) :=
  psW (ps_setLc (tt := concT X.K H0 tYes) (te := concE X.K H0 te) hc hN hy hyl hsw hi ok hg (fun _ _ _ _ _ => ptsnil) he hs) fun D σ H ⟨σp, M, Dp, t, s, m, u, k⟩ =>
    lcR_conc hm (R := LcP mt te (own.map (·.2))) (fun _ _ _ _ _ q => LcP.to q) ⟨σp, M, _, t, s, m, u, fun v H1 p M1 t1 m1 r u1 => k.nx _ _ _ _ t1 ((s.mono t1).set r i) m1 u1⟩
theorem plcF (hc : X.calm = true) (hN : X.N.Nodup) (hi : PIp' X H0 tg iter wi) (ok : BlkOk X.N X.env.scope scope own) (hm : TgOk X.K g mt (own.map (·.2)))
    (hg : ∀ (s : Shared) (H : Hp) (C : Addr) (cl : List (Str × Addr)) (fp : List Addr), PG (X.blk s H scope (compEnvC scope cl C X.env) fp) tg g)
    (ht : ∀ (s : Shared) (H : Hp) (C : Addr) (cl : List (Str × Addr)) (fp : List Addr), PTsp (X.blk s H scope (compEnvC scope cl C X.env) fp) H0 ifs tt)
    (he : ∀ (s : Shared) (H : Hp) (C : Addr) (cl : List (Str × Addr)) (fp : List Addr), PEp (X.blk s H scope (compEnvC scope cl C X.env) fp) H0 elt te) (hs : ∀ x, foldedSetIterable iter X.env x = pure x := by intro _; rfl) :
    PEp X H0 (.ListComp elt [⟨tg, iter, ifs, 0⟩] scope pos) (tLcF wi mt tt te (own.map (·.2))) :=
  peW (pe_lc (tt := concT X.K H0 tt) (te := concE X.K H0 te) hc hN hi ok hg ht he hs) fun σ H Q h => lcR_conc hm (fun _ _ _ _ _ q => LcF.to q) h
theorem pssetlcF (i : Nat) {y : Str} {py spos : Pos} (hc : X.calm = true) (hN : X.N.Nodup) (hyl : X.env.scope.names.lookup y = some .local)
    (hsw : swapsWith (.ListComp elt [⟨tg, iter, ifs, 0⟩] scope pos) (some (.Name y py)) spos.line X.env = pure true) (hi : PIp' X H0 tg iter wi) (ok : BlkOk X.N X.env.scope scope own) (hm : TgOk X.K g mt (own.map (·.2)))
    (hg : ∀ (s : Shared) (H : Hp) (C : Addr) (cl : List (Str × Addr)) (fp : List Addr), PG (X.blk s H scope (compEnvC scope cl C X.env) fp) tg g)
    (ht : ∀ (s : Shared) (H : Hp) (C : Addr) (cl : List (Str × Addr)) (fp : List Addr), PTsp (X.blk s H scope (compEnvC scope cl C X.env) fp) H0 ifs tt)
    (he : ∀ (s : Shared) (H : Hp) (C : Addr) (cl : List (Str × Addr)) (fp : List Addr), PEp (X.blk s H scope (compEnvC scope cl C X.env) fp) H0 elt te) (hy : X.N[i]? = some y := by rfl) (hs : ∀ x, foldedSetIterable iter X.env x = pure x := by intro _; rfl) :
    PSp' X H0 (.Assign [.Name y py] (.ListComp elt [⟨tg, iter, ifs, 0⟩] scope pos) spos) (tAsg (tLcF wi mt tt te (own.map (·.2))) (gName i)) :=
  psW (ps_setLc (tt := concT X.K H0 tt) (te := concE X.K H0 te) hc hN hy hyl hsw hi ok hg ht he hs) fun D σ H ⟨σp, M, Dp, t, s, m, u, k⟩ =>
    lcR_conc hm (R := LcF mt tt te (own.map (·.2))) (fun _ _ _ _ _ q => LcF.to q) ⟨σp, M, _, t, s, m, u, fun v H1 p M1 t1 m1 r u1 => k.nx _ _ _ _ t1 ((s.mono t1).set r i) m1 u1⟩
end
theorem g_mt {mt : Mt} {x : PV} {as : List (Nat × PV)} {R : List (Nat × PV) → Prop} (h : mt x = some as) (q : R as) : ∃ as, mt x = some as ∧ R as := ⟨as, h, q⟩
/-! ### comprehensions in comprehensions -/
theorem blkOk_n1 {s1 scope sc0 : Scope} {cl : List (Str × Addr)} {C : Addr} {env : PySem.Env} {N : List Str} {own : List (Str × Nat)} (he : env.scope = sc0) (h : blkC N (relS s1 sc0) scope own = true) : BlkOk N (compEnvC s1 cl C env).scope scope own := by
  subst he; exact blkOk_by h
theorem blkOk_n2 {s1 s2 scope sc0 : Scope} {cl cl2 : List (Str × Addr)} {C C2 : Addr} {env : PySem.Env} {N : List Str} {own : List (Str × Nat)} (he : env.scope = sc0) (h : blkC N (relS s2 (relS s1 sc0)) scope own = true) : BlkOk N (compEnvC s2 cl2 C2 (compEnvC s1 cl C env)).scope scope own := by
  subst he; exact blkOk_by h
theorem blkOk_n3 {s1 s2 s3 scope sc0 : Scope} {cl cl2 cl3 : List (Str × Addr)} {C C2 C3 : Addr} {env : PySem.Env} {N : List Str} {own : List (Str × Nat)} (he : env.scope = sc0) (h : blkC N (relS s3 (relS s2 (relS s1 sc0))) scope own = true) : BlkOk N (compEnvC s3 cl3 C3 (compEnvC s2 cl2 C2 (compEnvC s1 cl C env))).scope scope own := by
  subst he; exact blkOk_by h
/-! ### a tuple's methods -/
section
variable {o e : Expr} {es : List Expr} {to : TEp} {ta : TAp} {name : Str} {apos cpos : Pos} {id : String} {u : RMp}
@[reducible] def tTM (u : RMp) (to : TEp) (ta : TAp) : TEp := fun σ M Q => to σ M fun x M1 => match x with | .tup l => ta σ M1 fun ps M2 => u (.tup l) ps M2 Q | _ => False
theorem ptm (slot : Slot "tuple" name id) (hty : typeOf (.builtin id) = pure (.type "method_descriptor")) (hm : MtP X id u) (ho : PEp X H0 o to) (ha : PAp X H0 (e :: es) ta)
    (h1 : attributeBase o name X.env (eval o X.env) = eval o X.env := by rfl)
    (h2 : (((backTo cpos (starEach (e :: es) X.env)).all (fun x => !x.1) && (backToKw cpos (keywordEach [] X.env)).all (fun x => x.1.isSome)) && decide ((e :: es).length + ([] : List Keyword).length + (if ([] : List Keyword).isEmpty then 0 else 1) < 30)) = true := by rfl)
    (h3 : (apos.endLine == cpos.line) = true := by rfl) (h4 : starEach (e :: es) X.env = (false, eval e X.env) :: starEach es X.env := by rfl) (h5 : (backTo cpos (starEach es X.env)).any (·.1) = false := by rfl) :
    PEp X H0 (.Call (.Attribute o name apos) (e :: es) [] cpos) (tTM u to ta) := by
  obtain ⟨r, hr, hu⟩ := hm
  refine peW (pe_bmX slot hty hr ho ha h1 h2 h3 h4 h5) fun σ H Q ⟨σp, M, Qp, t, s, m, q, k⟩ => ⟨σp, M, _, t, s, m, q, fun x H1 px M1 t1 m1 rx u1 => ?_⟩
  cases rx with
  | tup h r0 =>
    refine ⟨⟨_, _, rfl, h⟩, σp, M1, _, t.trans t1, s.mono t1, m1, u1, fun vs H2 ps M2 t2 m2 rs u2 => ?_⟩
    exact hu _ _ _ _ _ _ _ _ (.tup (t2 _ _ h) (r0.mono t2)) rs m2 u2 fun v H3 p M3 t3 => k v H3 p M3 (t1.trans (t2.trans t3))
  | _ => exact u1.elim
/-- t.index(x) -/
def tIdxP : RMp := fun x ps M Q => match x, ps with
  | .tup l, [.int k] => ∃ ns : List Int, l = ns.map PV.int ∧ k ∈ ns ∧ Q (.int (ns.idxOf k : Nat)) M
  | .tup l, [.str k] => ∃ ns : List Str, l = ns.map PV.str ∧ k ∈ ns ∧ Q (.int (ns.idxOf k : Nat)) M
  | _, _ => False
theorem mIdxT : MtP X "tuple.index" tIdxP := by
  refine ⟨_, mt_idxT, fun x xs H px ps M Q Qp rx rs m u k => ?_⟩
  cases rx with
  | tup h r =>
    cases rs with
    | nil => exact u.elim
    | cons r1 rr => cases rr with
      | cons _ _ => cases r1 <;> exact u.elim
      | nil => cases r1 with
        | int i =>
          obtain ⟨ns, rfl, hk, q⟩ := u
          have e := r.ints
          subst e
          exact ⟨_, rfl, .inl ⟨ns, i, rfl, h.t, hk, k _ _ _ _ (Tk.refl _ _) m (.int _) q⟩⟩
        | str i =>
          obtain ⟨ns, rfl, hk, q⟩ := u
          have e := r.strs
          subst e
          exact ⟨_, rfl, .inr ⟨ns, i, rfl, h.t, hk, k _ _ _ _ (Tk.refl _ _) m (.int _) q⟩⟩
        | _ => exact u.elim
  | _ => exact u.elim
end
end
end PL

set_option Elab.async false
set_option linter.all false
set_option maxRecDepth 100000
set_option maxHeartbeats 2000000
/-! PL12: pure data; slices; sorted of pure data; tuple * int; whole numbers of the module. -/
namespace PLraw
open PySem PySem.Spec PySem.Calls PyProof.Rows
section
variable {prog : Program} {w : World} {A : Around} {E : Value → Shared → Prop} {s : Shared}
/-- sorted(x) of a tuple, by a sort that may look at what stood -/
theorem sorted_tupK {l : Addr} {vs : List Value} {Q : Value → Shared → Prop} {R : Array Value → Prop} (tup : s.heap.IsTuple l vs.toArray) (few : vs.length ≤ sizeLine)
    (sorts : ∀ (t : Shared) (a : Addr) (P : Fin → Shared → Prop), t.heap.get? a = some (seqObj "list" vs.toArray 0) → (∀ b o, s.heap.get? b = some o → b ≠ a ∧ t.heap.get? b = some o) → (∀ out, R out → P (.done (.ret .none)) { t with heap := sortedHeap t.heap a vs out }) → ∀ E, wpAny (model prog w) A.in1.in1 (Builtin.«list.sort» ⟨[.ref a], []⟩) P E t)
    (h : ∀ out, R out → Q (.ref (s.heap.objs.size + 1)) { s with heap := sortedAll s.heap vs out }) : wpAny (model prog w) A (call (.builtin "sorted") [.ref l]) Q E s := by
  have count : ((s.heap.push (seqObj "list" #[] 0)).update s.heap.objs.size (Obj.mapSeq (· ++ vs.toArray))).objs.size = s.heap.objs.size + 1 := (Heap.size_update _ _ _).trans (size_push' _ _)
  have laid : (((s.heap.push (seqObj "list" #[] 0)).update s.heap.objs.size (Obj.mapSeq (· ++ vs.toArray))).push (seqObj "list" vs.toArray 0)).get? (s.heap.objs.size + 1) = some (seqObj "list" vs.toArray 0) := count ▸ Heap.get?_push_size _ rfl
  have stay : ∀ b o, s.heap.get? b = some o → b ≠ s.heap.objs.size + 1 ∧ (((s.heap.push (seqObj "list" #[] 0)).update s.heap.objs.size (Obj.mapSeq (· ++ vs.toArray))).push (seqObj "list" vs.toArray 0)).get? b = some o := fun b o e => by
    have under := Heap.lt_size e
    refine ⟨Nat.ne_of_lt (Nat.lt_succ_of_lt under), Heap.get?_push_of_some _ ?_⟩
    rw [Heap.get?_update_ne _ _ _ _ (Nat.ne_of_lt under)]; exact Heap.get?_push_of_some _ e
  refine (Calls.call_function_entry kind_sorted plain_sorted entry_sorted (args_sorted1 _) ?_)
  unfold Builtin.«sorted»
  refine wpAny_bind (m := checkCount "sorted" 1 1 _) (wpAny_pure (wpAny_bind (gather_tup tup few (wpAny_bind (wpAny_newList ?_)))))
  change wpAny _ _ _ _ _ { s with heap := ((s.heap.push (seqObj "list" #[] 0)).update s.heap.objs.size (Obj.mapSeq (· ++ vs.toArray))).push (seqObj "list" vs.toArray 0) }
  rw [count]
  exact wpAny_bind (wpAny_holding (wpAny_call_entry slot_list_sort ⟨_, laid, rfl⟩ entry_list_sort (sorts { s with heap := _ } _ _ laid stay (fun out ro => ⟨_, rfl, wpAny_pure ⟨_, rfl, h out ro⟩⟩) _) (args_list_sort _)))
end
end PLraw
namespace PL
open PySem L2
section
variable {X : Cx} {H0 : Hp} {pos : Pos} {K : Kf}
/-- data without lists -/
inductive PureD : Nat → PV → Prop
  | non {n} : PureD (n + 1) .non
  | bl {n} (b) : PureD (n + 1) (.bl b)
  | int {n} (i) : PureD (n + 1) (.int i)
  | str {n} (x) : PureD (n + 1) (.str x)
  | tup {n l} : l.length ≤ 16777216 → (∀ x ∈ l, PureD n x) → PureD (n + 1) (.tup l)
mutual
def toD : PV → PyData
  | .non => .none
  | .bl b => .bool b
  | .int i => .int i
  | .str x => .str x
  | .tup l => .tuple (toDs l)
  | .ref _ => .none
  | .ty _ => .none
def toDs : List PV → List PyData
  | [] => []
  | x :: r => toD x :: toDs r
end
theorem toDs_map : ∀ l : List PV, toDs l = l.map toD
  | [] => rfl
  | x :: r => by rw [toDs, toDs_map r]; rfl
theorem PureD.dp {M : PHp} : ∀ {n : Nat} {x : PV}, PureD n x → DpP K M x (toD x)
  | _, _, .non => .non
  | _, _, .bl _ => .bl _
  | _, _, .int _ => .int _
  | _, _, .str _ => .str _
  | n + 1, .tup l, .tup _ h => by
    have key : ∀ l : List PV, (∀ x ∈ l, PureD n x) → DpsP K M l (toDs l) := by
      intro l
      induction l with
      | nil => intro _; exact .nil
      | cons x r ih => intro h; exact .cons (PureD.dp (h x List.mem_cons_self)) (ih fun y hy => h y (List.mem_cons_of_mem _ hy))
    exact .tup (key l h)
theorem PureD.depth : ∀ {n : Nat} {x : PV}, PureD n x → (toD x).depth ≤ n
  | _, _, .non => Nat.zero_le _
  | _, _, .bl _ => Nat.zero_le _
  | _, _, .int _ => Nat.zero_le _
  | _, _, .str _ => Nat.zero_le _
  | n + 1, .tup l, .tup _ h => by
    have key : ∀ l : List PV, (∀ x ∈ l, PureD n x) → PyData.depthAll (toDs l) ≤ n := by
      intro l
      induction l with
      | nil => intro _; exact Nat.zero_le _
      | cons x r ih =>
        intro h
        show max (toD x).depth (PyData.depthAll (toDs r)) ≤ n
        exact Nat.max_le.mpr ⟨PureD.depth (h x List.mem_cons_self), ih fun y hy => h y (List.mem_cons_of_mem _ hy)⟩
    show PyData.depthAll (toDs l) + 1 ≤ n + 1
    exact Nat.succ_le_succ (key l h)
/-! ### slices -/
abbrev TOp := PSt → PHp → (Option Int → PHp → Prop) → Prop
def concO (K : Kf) (H0 : Hp) (u : TOp) : TO := fun σ H Q => ∃ σp M Qp, Tk K H0 H ∧ RelS K H σp σ ∧ RelM K H M ∧ u σp M Qp ∧ ∀ b H' M', Tk K H H' → RelM K H' M' → Qp b M' → Q b H'
abbrev POp (X : Cx) (H0 : Hp) (e : Option Expr) (u : TOp) : Prop := PO X e (concO X.K H0 u)
@[reducible] def tNoP : TOp := fun _ M Q => Q none M
@[reducible] def tSomeP (t : TEp) : TOp := fun σ M Q => t σ M fun x M1 => match x with | .int i => Q (some i) M1 | _ => False
theorem poW {e : Option Expr} {t t' : TO} (h : PO X e t) (w : ∀ σ H Q, t' σ H Q → t σ H Q) : PO X e t' := ⟨fun pins s σ H Q I q => h.run pins s σ H Q I (w _ _ _ q)⟩
theorem ponone : POp X H0 none tNoP := poW po_none fun σ H Q ⟨_, M, _, _, _, m, u, k⟩ => k none H M (Tk.refl _ _) m u
theorem posome {e : Expr} {t : TEp} (h : PEp X H0 e t) : POp X H0 (some e) (tSomeP t) :=
  poW (po_some h) fun σ H Q ⟨σp, M, Qp, t, s, m, u, k⟩ => ⟨σp, M, _, t, s, m, u, fun x H1 px M1 t1 m1 rx u1 => by
    cases rx with
    | int i => exact ⟨i, rfl, k _ _ _ t1 m1 u1⟩
    | _ => exact u1.elim⟩
def cutL {α : Type} (xs : List α) (lo hi : Option Int) : List α := (xs.drop (HT.sIx xs.length 0 lo)).take (HT.sIx xs.length xs.length hi - HT.sIx xs.length 0 lo)
theorem cutL_map {α β : Type} (f : α → β) (xs : List α) (lo hi : Option Int) : cutL (xs.map f) lo hi = (cutL xs lo hi).map f := by
  unfold cutL; rw [List.length_map, List.map_take, List.map_drop]
theorem cutL_all {α : Type} {xs : List α} {lo hi : Option Int} (h : HT.sIx xs.length 0 lo = 0 ∧ HT.sIx xs.length xs.length hi = xs.length) : cutL xs lo hi = xs := by
  unfold cutL; rw [h.1, h.2]; simp
theorem cutL_len {α : Type} (xs : List α) (lo hi : Option Int) : (cutL xs lo hi).length ≤ xs.length := by
  unfold cutL; rw [List.length_take, List.length_drop]; omega
theorem cutL_mem {α : Type} {xs : List α} {lo hi : Option Int} {x : α} (h : x ∈ cutL xs lo hi) : x ∈ xs := List.mem_of_mem_drop (List.mem_of_mem_take h)
theorem Reps.cut {H : Hp} {ps : List PV} {vs : List V} (r : Reps K H ps vs) (lo hi : Option Int) : Reps K H (cutL ps lo hi) (cutV vs lo hi) := by
  unfold cutL cutV
  rw [r.length]
  exact (r.drop _).take _
def sliceP (K : Kf) (x : PV) (lo hi : Option Int) (M : PHp) (Q : PVK) : Prop := match x with
  | .tup l => Q (.tup (cutL l lo hi)) M
  | .ref a => ∃ l, rdL K M a l ∧ ∀ p, M p = none → Q (.ref p) (updM M p (.lst (cutL l lo hi)))
  | .str z => z.length ≤ sizeLine ∧ Q (.str (cutS z lo hi)) M
  | _ => False
@[reducible] def tSlP (K : Kf) (te : TEp) (tl th : TOp) : TEp := fun σ M Q => te σ M fun x M1 => tl σ M1 fun l M2 => th σ M2 fun h M3 => sliceP K x l h M3 Q
theorem pslice {e : Expr} {lo hi : Option Expr} {te : TEp} {tl th : TOp} {p2 : Pos} (he : PEp X H0 e te) (hl : POp X H0 lo tl) (hh : POp X H0 hi th) (hK : X.K = K := by rfl) : PEp X H0 (.Subscript e (.Slice lo hi none p2) pos) (tSlP K te tl th) := by
  subst hK
  refine peW (pe_slice ((sl_tupX.or sl_list).or sl_str) he hl hh) fun σ H Q ⟨σp, M, Qp, t, s, m, u, k⟩ => ⟨σp, M, _, t, s, m, u, fun x H1 px M1 t1 m1 rx u1 => ⟨σp, M1, _, t.trans t1, s.mono t1, m1, u1, fun l H2 M2 t2 m2 u2 => ⟨σp, M2, _, (t.trans t1).trans t2, (s.mono t1).mono t2, m2, u2, fun h H3 M3 t3 m3 u3 => ?_⟩⟩⟩
  have kk : Kont X.K H3 Q Qp := fun v H4 p M4 t4 => k v H4 p M4 (((t1.trans t2).trans t3).trans t4)
  have rx := (rx.mono t2).mono t3
  cases rx with
  | tup hs r =>
    refine .inl (.inl ⟨_, _, rfl, hs, fun w => ?_, fun _ => new_tup m3 (r.cut _ _) u3 kk⟩)
    have w2 := w
    rw [← r.length] at w2
    have u4 : Qp (.tup _) M3 := u3
    rw [cutL_all w2] at u4
    exact old_tup m3 hs r u4 kk
  | ref a =>
    obtain ⟨l0, hl0, q⟩ := u3
    obtain ⟨vs, e, r⟩ := hl0.to m3
    exact .inl (.inr ⟨_, _, rfl, e, fun p hp => new_lst m3 hp (r.cut _ _) q kk⟩)
  | str z => exact .inr ⟨z, rfl, u3.1, kk _ _ _ _ (Tk.refl _ _) m3 (.str _) u3.2⟩
  | _ => exact u3.elim
/-! ### whole numbers of the module -/
theorem pglobI {x : Str} {i : Int} (hg : Gl X x) (hm : ∃ t, X.mg x = some (.int i t)) (hd : (x == ("__debug__" : Str)) = false := by decide) : PEp X H0 (.Name x pos) (tc (.int i)) := by
  obtain ⟨t, hm⟩ := hm
  exact pglob hg hm (v := .int i) ⟨t, rfl⟩ (fun _ => .int i) hd
/-! ### sorted of pure data -/
open PySem.W (AllAlike Sortable EachIs dataLe) in
def rSortC (K : Kf) : List V → Hp → VK → Prop := fun vs H Q => ∃ (a : Addr) (c : List (PV × V)), vs = [V.ref a] ∧ (SqL K H a (c.map (·.2)) ∨ SqT K H a (c.map (·.2))) ∧ (∀ b ∈ c, Dp K H b.2 (toD b.1) ∧ (toD b.1).depth ≤ 40) ∧
  AllAlike (c.map fun b => toD b.1) ∧ Sortable (c.map fun b => toD b.1) ∧ ∀ p, H p = none → Q (.ref p) (upd H p (.lst ((c.mergeSort (dataLe false fun b => toD b.1)).map (·.2))))
theorem each_rel : ∀ {c : List (PV × V)} {its : List Value}, Vals (c.map (·.2)) its → PySem.W.EachIs (fun v b => RelV b.2 v) its c
  | [], _, .nil => .nil
  | _ :: _, _, .cons r t => .cons r (each_rel t)
theorem rel_each : ∀ {c : List (PV × V)} {its : List Value}, PySem.W.EachIs (fun v b => RelV b.2 v) its c → Vals (c.map (·.2)) its
  | _, _, .nil => .nil
  | _, _, .cons r t => .cons r (rel_each t)
theorem each_reads {pins : List (Addr × Obj)} {σ : L2.St} {H : Hp} {s : Shared} (I : Inv X pins σ H s) : ∀ {c : List (PV × V)} {its : List Value}, (∀ b ∈ c, Dp X.K H b.2 (toD b.1) ∧ (toD b.1).depth ≤ 40) → Vals (c.map (·.2)) its → PySem.W.EachIs (fun v b => ∃ as, Reads s.heap v (toD b.1) as) its c
  | [], _, _, .nil => .nil
  | b :: _, _, h, .cons r t => .cons (Dp.reads I _ _ _ (h b List.mem_cons_self).1 r) (each_reads I (fun y hy => h y (List.mem_cons_of_mem _ hy)) t)
theorem each_len {α β : Type} {R : α → β → Prop} : ∀ {as : List α} {bs : List β}, PySem.W.EachIs R as bs → as.length = bs.length
  | _, _, .nil => rfl
  | _, _, .cons _ t => congrArg (· + 1) (each_len t)
theorem cr_sortC (hu : X.A.units + 64 < cLine) : CallR X (.builtin "sorted") (rSortC X.K) := by
  rintro pins s σ H vs us Q I r ⟨a, c, rfl, here, dps, ali, sor, q⟩
  have fin : ∀ (its : List Value) (out : List Value), c.length ≤ sizeLine → PySem.W.EachIs (fun v b => RelV b.2 v) out (c.mergeSort (PySem.W.dataLe false fun b => toD b.1)) → EP X pins σ Q (.ref (s.heap.objs.size + 1)) { s with heap := PyProof.Rows.sortedAll s.heap its out.toArray } := fun its out few h1 => by
    obtain ⟨ep, at_new⟩ := PyProof.Rows.sortedAll_at s.heap its out.toArray
    refine ⟨.ref _, upd H (s.heap.objs.size + 1) (.lst ((c.mergeSort (PySem.W.dataLe false fun b => toD b.1)).map (·.2))), I.laid (t' := s.toks) (fun _ _ => PyProof.Rows.sortedAll_old) (Nat.le_succ _) ⟨?_, out, ep, rel_each h1, at_new⟩, rfl, q _ (I.hok.fresh (Nat.le_succ _))⟩
    rw [List.length_map, List.length_mergeSort]; exact few
  have room : ∀ b, b ∈ c → X.A.units + 2 + (toD b.1).depth < cLine := fun b hb => by have := (dps b hb).2; omega
  rw [Vals.ref1 r]
  rcases here with here | here
  · obtain ⟨its, rv, pl, few⟩ := I.list here
    rw [List.length_map] at few
    exact PySem.W.sorted_data pl.isList (each_rel rv) (each_reads I dps rv) ali sor few room fun out h0 h1 => fin its out few h1
  · obtain ⟨its, rv, tup, few⟩ := I.tuple here
    rw [List.length_map] at few
    have len : its.length = c.length := by rw [← rv.length, List.length_map]
    refine PLraw.sorted_tupK (R := fun out => PySem.W.EachIs (fun v b => RelV b.2 v) out.toList (c.mergeSort (PySem.W.dataLe false fun b => toD b.1))) tup (by omega) (fun t ax P at_b stay k E => ?_) fun out h1 => ?_
    · have er : PySem.W.EachIs (fun v b => ∃ as, Reads (PySem.W.sortingHeap t.heap ax its) v (toD b.1) as) its c := (each_reads I dps rv).mono fun _ _ ⟨as, rd⟩ => ⟨as, PyProof.Rows.Reads.keeps (fun x o e => PySem.W.sortingHeap_old (stay x o e).1 (stay x o e).2) rd⟩
      refine PySem.W.list_sort_vals (κ := PySem.W.dataKind (PySem.W.sortingHeap t.heap ax its) (c.map fun b : PV × V => toD b.1)) at_b (PySem.W.SortsAt.data (s := { t with heap := PySem.W.sortingHeap t.heap ax its }) (PySem.W.each_map (R := fun v d => ∃ as, Reads (PySem.W.sortingHeap t.heap ax its) v d as) (fun b : PV × V => toD b.1) er) ali sor (PySem.W.bound_map room)) (by omega) (k _ ?_)
      rw [List.toList_toArray]
      exact PySem.W.sortVals_data false (each_rel rv) er ali
    · have z := fin its out.toList few h1
      rw [Array.toArray_toList] at z
      exact z
def sortDP (K : Kf) : RCp := fun xs M Q => ∃ l : List PV, (match xs with | [.tup l'] => l' = l | [.ref a] => rdL K M a l | _ => False) ∧ (∀ x ∈ l, PureD 40 x) ∧ PySem.W.AllAlike (l.map toD) ∧ PySem.W.Sortable (l.map toD) ∧
  ∀ p, M p = none → Q (.ref p) (updM M p (.lst (l.mergeSort (PySem.W.dataLe false toD))))
theorem reps_zip {H : Hp} : ∀ {l : List PV} {vs : List V}, Reps K H l vs → (l.zip vs).map (·.1) = l ∧ (l.zip vs).map (·.2) = vs ∧ ∀ b ∈ l.zip vs, Rep K H b.1 b.2 ∧ b.1 ∈ l
  | _, _, .nil => ⟨rfl, rfl, fun _ h => nomatch h⟩
  | _, _, .cons (p := p) (v := v) r t => by
    obtain ⟨h1, h2, h3⟩ := reps_zip t
    refine ⟨congrArg (p :: ·) h1, congrArg (v :: ·) h2, fun b hb => ?_⟩
    rcases List.mem_cons.mp hb with rfl | hb
    · exact ⟨r, List.mem_cons_self⟩
    · exact ⟨(h3 b hb).1, List.mem_cons_of_mem _ (h3 b hb).2⟩
theorem zip_reps {H : Hp} : ∀ {c : List (PV × V)}, (∀ b ∈ c, Rep K H b.1 b.2) → Reps K H (c.map (·.1)) (c.map (·.2))
  | [], _ => .nil
  | b :: _, h => .cons (h b List.mem_cons_self) (zip_reps fun y hy => h y (List.mem_cons_of_mem _ hy))
theorem cSortD (hu : X.A.units + 64 < cLine) : CallP X (.builtin "sorted") (sortDP X.K) := by
  refine ⟨_, cr_sortC hu, fun xs H ps M Q Qp rs m u k => ?_⟩
  obtain ⟨l, u, pure, ali, sor, q⟩ := u
  have go : ∀ (a : Addr) (vs : List V), (SqL X.K H a vs ∨ SqT X.K H a vs) → Reps X.K H l vs → rSortC X.K [V.ref a] H Q := fun a vs here r => by
    obtain ⟨z1, z2, z3⟩ := reps_zip r
    have e1 : ((l.zip vs).map fun b => toD b.1) = l.map toD := by have h := congrArg (List.map toD) z1; rw [List.map_map] at h; exact h
    refine ⟨a, l.zip vs, rfl, by rw [z2]; exact here, fun b hb => ⟨(pure _ (z3 b hb).2).dp.to m (z3 b hb).1, (pure _ (z3 b hb).2).depth⟩, by rw [e1]; exact ali, by rw [e1]; exact sor, fun p hp => ?_⟩
    have perm := List.mergeSort_perm (l.zip vs) (PySem.W.dataLe false fun b => toD b.1)
    have rr : Reps X.K H (((l.zip vs).mergeSort (PySem.W.dataLe false fun b => toD b.1)).map (·.1)) (((l.zip vs).mergeSort (PySem.W.dataLe false fun b => toD b.1)).map (·.2)) := zip_reps fun b hb => (z3 b (perm.mem_iff.mp hb)).1
    have e2 : ((l.zip vs).mergeSort (PySem.W.dataLe false fun b => toD b.1)).map (·.1) = l.mergeSort (PySem.W.dataLe false toD) := by
      have := List.map_mergeSort (r := PySem.W.dataLe false fun b : PV × V => toD b.1) (s := PySem.W.dataLe false toD) (f := (·.1)) (l := l.zip vs) (fun _ _ _ _ => rfl)
      rw [z1] at this; exact this
    rw [e2] at rr
    exact new_lst m hp rr q k
  cases rs with
  | nil => exact u.elim
  | cons r rr => cases rr with
    | cons _ _ => cases r <;> exact u.elim
    | nil => cases r with
      | tup h r =>
        subst u
        exact go _ _ (.inr h.t) r
      | ref a =>
        obtain ⟨vs, e, r⟩ := u.to m
        exact go _ _ (.inl e) r
      | _ => exact u.elim
theorem cSortDK (hu : X.A.units + 64 < cLine) (hK : X.K = K := by rfl) : CallP X (.builtin "sorted") (sortDP K) := hK ▸ cSortD hu
end
end PL

set_option Elab.async false
set_option linter.all false
set_option maxRecDepth 100000
set_option maxHeartbeats 4000000
/-! PL13: dict(zip(t, u)) of two tuples; dicts with whole numbers and texts as keys. -/
namespace PLz
open PySem PySem.Spec PySem.Calls PyProof.Rows
section
variable {prog : Program} {w : World} {A : Around} {E : Value → Shared → Prop} {s : Shared}
/-- the next pair of a zip of tuples whose last pair is still out -/
theorem next_held {zp ti to_ T j1 j2 t1 t2 : Addr} {f : Bool} {oT : Obj} {k1 k2 : Nat} {xs ys : Array Value} {x y : Value} {Q : Value → Shared → Prop} (D : ZipApart zp ti to_ j1 j2 t1 t2)
    (hz : IsZipHeld s.heap zp ti to_ T f) (hT : s.heap.get? T = some oT) (hp : IsPair s.heap ti (.ref j1) (.ref j2))
    (h1 : s.heap.IsTupleIter j1 t1 k1) (h2 : s.heap.IsTupleIter j2 t2 k2) (ht1 : s.heap.IsTuple t1 xs) (ht2 : s.heap.IsTuple t2 ys) (hx : xs[k1]? = some x) (hy : ys[k2]? = some y)
    (fin : ∀ h', IsZipHeld h' zp ti to_ T true → h'.IsTupleIter j1 t1 (k1 + 1) → h'.IsTupleIter j2 t2 (k2 + 1) → IsPair h' s.heap.objs.size x y → h'.objs.size = s.heap.objs.size + 1 →
      (∀ c o, c ≠ zp → c ≠ j1 → c ≠ j2 → s.heap.get? c = some o → h'.get? c = some o) → Q (.ref s.heap.objs.size) { s with heap := h' }) :
    wpAny (model prog w) A (Builtin.«zip.__next__» ⟨[.ref zp], []⟩) (fun e s' => ∃ v, e = .done (.ret v) ∧ Q v s') E s := by
  change wpAny _ _ (field (.ref zp) 2 >>= _) _ _ _
  refine wpAny_bind (wpAny_field hz rfl (x := Value.bool false) rfl ?_)
  change wpAny _ _ (field (.ref zp) 3 >>= _) _ _ _
  refine wpAny_bind (wpAny_field hz rfl (x := Value.ref ti) rfl (wpAny_bind (wpAny_seqItems hp rfl ?_)))
  change wpAny _ _ (Builtin.SmallTypes.ownedTupleIsFree (.ref zp) >>= _) _ _ _
  refine wpAny_bind (wpAny_tupleHeld_zip hz hT fun ha hza sa => ?_)
  simp only [Bool.false_eq_true, if_false]
  rw [← Array.forIn_toList]
  simp only [List.forIn_cons, List.forIn_nil]
  refine wpAny_bind (wpAny_bind (wpAny_bind (wpAny_holding ?_)))
  change wpAny _ _ (Builtin.SmallTypes.nextOf (.ref j1) >>= _) _ _ _
  refine wpAny_bind (RZ.nextOf_tuple_item (s := { s with heap := ha }) (h1.extBut sa.extBut D.i1z) (ht1.extBut sa.extBut D.l1z) hx fun hb h1b sb => wpAny_pure (wpAny_pure (wpAny_bind (wpAny_bind (wpAny_holding ?_)))))
  change wpAny _ _ (Builtin.SmallTypes.nextOf (.ref j2) >>= _) _ _ _
  refine wpAny_bind (RZ.nextOf_tuple_item (s := { s with heap := hb }) ((h2.extBut sa.extBut D.i2z).extBut sb.extBut D.i12.symm) ((ht2.extBut sa.extBut D.l2z).extBut sb.extBut D.l2i1) hy fun hc h2c sc => wpAny_pure (wpAny_pure (wpAny_pure ?_)))
  change wpAny _ _ (newTuple [x, y] >>= _) _ _ _
  refine wpAny_bind (wpAny_newTuple ?_)
  have size : hc.objs.size = s.heap.objs.size := by rw [sc.1, sb.1, sa.1]
  have hzc : IsZipHeld hc zp ti to_ T true := sc.extBut _ _ D.i2z.symm (sb.extBut _ _ D.i1z.symm hza)
  have stay : ∀ c o, c ≠ zp → c ≠ j1 → c ≠ j2 → s.heap.get? c = some o → hc.get? c = some o := fun c o n1 n2 n3 e => sc.extBut _ _ n3 (sb.extBut _ _ n2 (sa.extBut _ _ n1 e))
  refine wpAny_pure ⟨_, rfl, ?_⟩
  change Q (.ref hc.objs.size) _
  have pair : IsPair (hc.push { cls := .type "tuple", data := .seq #[x, y] }) hc.objs.size x y := Heap.get?_push_size _ rfl
  have more : (hc.push { cls := .type "tuple", data := .seq #[x, y] }).objs.size = hc.objs.size + 1 := Heap.size_push ..
  rw [size] at pair more ⊢
  exact fin _ (Heap.get?_push_of_some _ hzc) ((h1b.extBut sc.extBut D.i12).at fun o e => Heap.get?_push_of_some _ e) (h2c.at fun o e => Heap.get?_push_of_some _ e) pair more fun c o n1 n2 n3 e => Heap.get?_push_of_some _ (stay c o n1 n2 n3 e)
theorem end_held {zp ti to_ T j1 j2 t1 t2 : Addr} {f : Bool} {oT : Obj} {k1 k2 : Nat} {xs ys : Array Value} {Q : Fin → Shared → Prop} (calm : A.handled = none) (D : ZipApart zp ti to_ j1 j2 t1 t2)
    (hz : IsZipHeld s.heap zp ti to_ T f) (hT : s.heap.get? T = some oT) (hp : IsPair s.heap ti (.ref j1) (.ref j2))
    (h1 : s.heap.IsTupleIter j1 t1 k1) (h2 : s.heap.IsTupleIter j2 t2 k2) (ht1 : s.heap.IsTuple t1 xs) (ht2 : s.heap.IsTuple t2 ys) (last : xs[k1]? = none ∨ ys[k2]? = none)
    (stop : ∀ h' e, (∀ c o, c ≠ zp → c ≠ j1 → c ≠ j2 → s.heap.get? c = some o → h'.get? c = some o) → (∃ o, h'.get? e = some o ∧ o.cls = .type "StopIteration") → E (.ref e) { s with heap := h' }) :
    wpAny (model prog w) A (Builtin.«zip.__next__» ⟨[.ref zp], []⟩) Q E s := by
  change wpAny _ _ (field (.ref zp) 2 >>= _) _ _ _
  refine wpAny_bind (wpAny_field hz rfl (x := Value.bool false) rfl ?_)
  change wpAny _ _ (field (.ref zp) 3 >>= _) _ _ _
  refine wpAny_bind (wpAny_field hz rfl (x := Value.ref ti) rfl (wpAny_bind (wpAny_seqItems hp rfl ?_)))
  change wpAny _ _ (Builtin.SmallTypes.ownedTupleIsFree (.ref zp) >>= _) _ _ _
  refine wpAny_bind (wpAny_tupleHeld_zip hz hT fun ha hza sa => ?_)
  simp only [Bool.false_eq_true, if_false]
  rw [← Array.forIn_toList]
  simp only [List.forIn_cons, List.forIn_nil]
  refine wpAny_bind (wpAny_bind (wpAny_bind (wpAny_holding ?_)))
  change wpAny _ _ (Builtin.SmallTypes.nextOf (.ref j1) >>= _) _ _ _
  cases hx : xs[k1]? with
  | none =>
    refine wpAny_bind (RZ.nextOf_tuple_end (s := { s with heap := ha }) calm (h1.extBut sa.extBut D.i1z) (ht1.extBut sa.extBut D.l1z) hx fun hb e sb he => ?_)
    exact stop hb e (fun c o n1 n2 _ q => sb _ _ n2 (sa.extBut _ _ n1 q)) he
  | some x =>
    have hy : ys[k2]? = none := last.resolve_left fun q => by rw [hx] at q; cases q
    refine wpAny_bind (RZ.nextOf_tuple_item (s := { s with heap := ha }) (h1.extBut sa.extBut D.i1z) (ht1.extBut sa.extBut D.l1z) hx fun hb h1b sb => wpAny_pure (wpAny_pure (wpAny_bind (wpAny_bind (wpAny_holding ?_)))))
    change wpAny _ _ (Builtin.SmallTypes.nextOf (.ref j2) >>= _) _ _ _
    refine wpAny_bind (RZ.nextOf_tuple_end (s := { s with heap := hb }) calm ((h2.extBut sa.extBut D.i2z).extBut sb.extBut D.i12.symm) ((ht2.extBut sa.extBut D.l2z).extBut sb.extBut D.l2i1) hy fun hc e sc he => ?_)
    exact stop hc e (fun c o n1 n2 n3 q => sc _ _ n3 (sb.extBut _ _ n2 (sa.extBut _ _ n1 q))) he
theorem pyNext_held {zp ti to_ T j1 j2 t1 t2 : Addr} {f : Bool} {oT : Obj} {k1 k2 : Nat} {xs ys : Array Value} {x y : Value} {Q : Option Value → Shared → Prop} (D : ZipApart zp ti to_ j1 j2 t1 t2)
    (hz : IsZipHeld s.heap zp ti to_ T f) (hT : s.heap.get? T = some oT) (hp : IsPair s.heap ti (.ref j1) (.ref j2))
    (h1 : s.heap.IsTupleIter j1 t1 k1) (h2 : s.heap.IsTupleIter j2 t2 k2) (ht1 : s.heap.IsTuple t1 xs) (ht2 : s.heap.IsTuple t2 ys) (hx : xs[k1]? = some x) (hy : ys[k2]? = some y)
    (fin : ∀ h', IsZipHeld h' zp ti to_ T true → h'.IsTupleIter j1 t1 (k1 + 1) → h'.IsTupleIter j2 t2 (k2 + 1) → IsPair h' s.heap.objs.size x y → h'.objs.size = s.heap.objs.size + 1 →
      (∀ c o, c ≠ zp → c ≠ j1 → c ≠ j2 → s.heap.get? c = some o → h'.get? c = some o) → Q (some (.ref s.heap.objs.size)) { s with heap := h' }) :
    wpAny (model prog w) A (pyNext (.ref zp)) Q E s := by
  have isZ : s.TypeIs (.ref zp) "zip" := ⟨_, hz, rfl⟩
  unfold pyNext
  exact wpAny_bind (wpAny_attempt (wpAny_callSpecial?_slot (name := Str.ofString "__next__") isZ F.slot_zip_next
    (wpAny_call_entry F.slot_zip_next isZ F.entry_zip_next (next_held D hz hT hp h1 h2 ht1 ht2 hx hy fun h' a1 a2 a3 a4 a5 a6 => wpAny_pure (fin h' a1 a2 a3 a4 a5 a6)) (F.args_zip_next_1 _))))
theorem pyNext_end_held {zp ti to_ T j1 j2 t1 t2 : Addr} {f : Bool} {oT : Obj} {k1 k2 : Nat} {xs ys : Array Value} {Q : Option Value → Shared → Prop} (calm : A.handled = none) (D : ZipApart zp ti to_ j1 j2 t1 t2)
    (hz : IsZipHeld s.heap zp ti to_ T f) (hT : s.heap.get? T = some oT) (hp : IsPair s.heap ti (.ref j1) (.ref j2))
    (h1 : s.heap.IsTupleIter j1 t1 k1) (h2 : s.heap.IsTupleIter j2 t2 k2) (ht1 : s.heap.IsTuple t1 xs) (ht2 : s.heap.IsTuple t2 ys) (last : xs[k1]? = none ∨ ys[k2]? = none)
    (stop : ∀ h', (∀ c o, c ≠ zp → c ≠ j1 → c ≠ j2 → s.heap.get? c = some o → h'.get? c = some o) → Q none { s with heap := h' }) : wpAny (model prog w) A (pyNext (.ref zp)) Q E s := by
  have isZ : s.TypeIs (.ref zp) "zip" := ⟨_, hz, rfl⟩
  unfold pyNext
  refine wpAny_bind (wpAny_attempt (wpAny_callSpecial?_slot (name := Str.ofString "__next__") isZ F.slot_zip_next
    (wpAny_call_entry F.slot_zip_next isZ F.entry_zip_next (end_held calm D hz hT hp h1 h2 ht1 ht2 last fun h' e hk ⟨o, ho, hc⟩ => ?_) (F.args_zip_next_1 _))))
  exact wpAny_bind (wpAny_isInstance (T := "StopIteration") (b := true) ⟨o, ho, hc⟩ isSubtype_stop (wpAny_pure (stop _ hk)))
/-- where a zip of two tuples stands behind k turns, while a dict at d is filled -/
def ZSt (zp ti to_ j1 j2 t1 t2 d : Addr) (xs ys : Array Value) (k : Nat) (h : Heap) : Prop :=
  IsPair h ti (.ref j1) (.ref j2) ∧ h.IsTupleIter j1 t1 k ∧ h.IsTupleIter j2 t2 k ∧ h.IsTuple t1 xs ∧ h.IsTuple t2 ys ∧
    ((IsZip h zp ti to_ .none ∧ ∃ a b, IsPair h to_ a b) ∨ ∃ T f oT, IsZipHeld h zp ti to_ T f ∧ h.get? T = some oT ∧ T ≠ zp ∧ T ≠ j1 ∧ T ≠ j2 ∧ T ≠ d)
theorem not4 {c a1 a2 a3 a4 : Addr} (h : c ∉ [a1, a2, a3, a4]) : c ≠ a1 ∧ c ≠ a2 ∧ c ≠ a3 ∧ c ≠ a4 := by
  simp only [List.mem_cons, List.not_mem_nil, or_false, not_or] at h; exact h
theorem zst_src {zp ti to_ j1 j2 t1 t2 d : Addr} (D : ZipApart zp ti to_ j1 j2 t1 t2) (calm : A.handled = none) {xs ys : Array Value} (off : d ≠ zp ∧ d ≠ ti ∧ d ≠ to_ ∧ d ≠ j1 ∧ d ≠ j2 ∧ d ≠ t1 ∧ d ≠ t2) :
    PairSrc prog w A zp d [zp, to_, j1, j2] (min xs.size ys.size) (fun i k v => xs[i]? = some k ∧ ys[i]? = some v) (ZSt zp ti to_ j1 j2 t1 t2 d xs ys) where
  off := fun hm => by
    obtain ⟨dz, _, dto, dj1, dj2, _⟩ := off
    rcases List.mem_cons.mp hm with e | hm
    · exact dz e
    rcases List.mem_cons.mp hm with e | hm
    · exact dto e
    rcases List.mem_cons.mp hm with e | hm
    · exact dj1 e
    exact dj2 (List.mem_singleton.mp hm)
  frame := fun i ha hb st hk => by
    obtain ⟨dz, dti, dto, dj1, dj2, dt1, dt2⟩ := off
    obtain ⟨hp, h1, h2, ht1, ht2, hz⟩ := st
    refine ⟨hk _ _ dti.symm hp, h1.at fun o e => hk _ o dj1.symm e, h2.at fun o e => hk _ o dj2.symm e, ht1.at fun o e => hk _ o dt1.symm e, ht2.at fun o e => hk _ o dt2.symm e, ?_⟩
    rcases hz with ⟨hz, a, b, hto⟩ | ⟨T, f, oT, hz, hT, n1, n2, n3, n4⟩
    · exact .inl ⟨hk _ _ dz.symm hz, a, b, hk _ _ dto.symm hto⟩
    · exact .inr ⟨T, f, oT, hk _ _ dz.symm hz, hk _ _ n4 hT, n1, n2, n3, n4⟩
  item := fun i st Q1 E1 hi zs under fin => by
    obtain ⟨hp, h1, h2, ht1, ht2, hz⟩ := zs
    have gx := Array.getElem?_eq_getElem (xs := xs) (i := i) (Nat.lt_of_lt_of_le hi (Nat.min_le_left ..))
    have gy := Array.getElem?_eq_getElem (xs := ys) (i := i) (Nat.lt_of_lt_of_le hi (Nat.min_le_right ..))
    have new : ∀ {c o}, st.heap.get? c = some o → st.heap.objs.size ≠ c := fun e => Nat.ne_of_gt (Heap.lt_size e)
    have m1 : st.heap.objs.size ≠ j1 := let ⟨_, e, _⟩ := h1; new e
    have m2 : st.heap.objs.size ≠ j2 := let ⟨_, e, _⟩ := h2; new e
    rcases hz with ⟨hz, a, b, hto⟩ | ⟨T, f, oT, hz, hT, n1, n2, n3, n4⟩
    · refine RZ.pyNext_zipT_item D hz hp hto h1 h2 ht1 ht2 gx gy fun h' a1 a2 a3 a4 a5 a6 hk => ?_
      refine fin st.heap.objs.size _ _ h' st.toks ⟨gx, gy⟩ (.inl ⟨_, a5, rfl, _, rfl⟩) ⟨hk _ _ D.TIz D.TITO D.TIi1 D.TIi2 hp, a3, a4, ht1.at fun o e => hk _ o D.l1z D.l1TO D.l1i1 D.l1i2 e, ht2.at fun o e => hk _ o D.l2z D.l2TO D.l2i1 D.l2i2 e, .inr ⟨st.heap.objs.size, false, _, a1, a5, new hz, m1, m2, Nat.ne_of_gt under⟩⟩ fun c o nc e => ?_
      obtain ⟨c1, c2, c3, c4⟩ := not4 nc
      exact hk c o c1 c2 c3 c4 e
    · refine pyNext_held D hz hT hp h1 h2 ht1 ht2 gx gy fun h' a1 a3 a4 a5 a6 hk => ?_
      refine fin st.heap.objs.size _ _ h' st.toks ⟨gx, gy⟩ (.inl ⟨_, a5, rfl, _, rfl⟩) ⟨hk _ _ D.TIz D.TIi1 D.TIi2 hp, a3, a4, ht1.at fun o e => hk _ o D.l1z D.l1i1 D.l1i2 e, ht2.at fun o e => hk _ o D.l2z D.l2i1 D.l2i2 e, .inr ⟨T, true, oT, a1, hk _ _ n1 n2 n3 hT, n1, n2, n3, n4⟩⟩ fun c o nc e => ?_
      obtain ⟨c1, _, c3, c4⟩ := not4 nc
      exact hk c o c1 c3 c4 e
  done := fun st Q1 E1 zs fin => by
    obtain ⟨hp, h1, h2, ht1, ht2, hz⟩ := zs
    have last : xs[min xs.size ys.size]? = none ∨ ys[min xs.size ys.size]? = none := by
      rcases Nat.le_total xs.size ys.size with h | h
      · left; rw [Nat.min_eq_left h]; exact Array.getElem?_eq_none (Nat.le_refl _)
      · right; rw [Nat.min_eq_right h]; exact Array.getElem?_eq_none (Nat.le_refl _)
    rcases hz with ⟨hz, a, b, hto⟩ | ⟨T, f, oT, hz, hT, n1, n2, n3, n4⟩
    · refine RZ.pyNext_zipT_end calm D hz hp hto h1 h2 ht1 ht2 last fun h' hk => fin h' st.toks fun c o nc e => ?_
      obtain ⟨c1, c2, c3, c4⟩ := not4 nc
      exact hk c o c1 c2 c3 c4 e
    · refine pyNext_end_held calm D hz hT hp h1 h2 ht1 ht2 last fun h' hk => fin h' st.toks fun c o nc e => ?_
      obtain ⟨c1, _, c3, c4⟩ := not4 nc
      exact hk c o c1 c3 c4 e
theorem zip_arg (zp ti to_ j1 j2 t1 t2 : Addr) (D : ZipApart zp ti to_ j1 j2 t1 t2) (xs ys : Array Value) :
    PairArg prog w "zip" zp [zp, ti, to_, j1, j2, t1, t2] [zp, to_, j1, j2] (min xs.size ys.size) (fun i k v => xs[i]? = some k ∧ ys[i]? = some v)
      (fun h => IsZip h zp ti to_ .none ∧ IsPair h ti (.ref j1) (.ref j2) ∧ (∃ a b, IsPair h to_ a b) ∧ h.IsTupleIter j1 t1 0 ∧ h.IsTupleIter j2 t2 0 ∧ h.IsTuple t1 xs ∧ h.IsTuple t2 ys) where
  type := fun _ all => ⟨_, all.1, rfl⟩
  notDict := by decide
  keep := fun ha hb ⟨hz, hp, ⟨a, b, hto⟩, h1, h2, ht1, ht2⟩ hk =>
    ⟨hk _ _ hz, hk _ _ hp, ⟨a, b, hk _ _ hto⟩, h1.at fun o e => hk _ o e, h2.at fun o e => hk _ o e, ht1.at fun o e => hk _ o e, ht2.at fun o e => hk _ o e⟩
  there := fun h all b hb => by
    obtain ⟨hz, hp, ⟨a, c, hto⟩, ⟨o1, h1, _⟩, ⟨o2, h2, _⟩, ⟨o3, ht1, _⟩, ⟨o4, ht2, _⟩⟩ := all
    simp only [List.mem_cons, List.not_mem_nil, or_false] at hb
    obtain e | e | e | e | e | e | e := hb <;> subst e
    · exact ⟨_, hz⟩
    · exact ⟨_, hp⟩
    · exact ⟨_, hto⟩
    · exact ⟨_, h1⟩
    · exact ⟨_, h2⟩
    · exact ⟨_, ht1⟩
    · exact ⟨_, ht2⟩
  sub := fun b hb => by
    simp only [List.mem_cons, List.not_mem_nil, or_false] at hb ⊢
    obtain e | e | e | e := hb <;> subst e <;> simp
  noKeys := fun _ _ _ _ calm all h => getAttrOr_miss_zip all.1 rfl rfl rfl zip_no_keys (by decide +kernel) calm h
  iter := fun A s d Q E calm all under off h => by
    obtain ⟨hz, hp, hto, h1, h2, ht1, ht2⟩ := all
    simp only [List.mem_cons, List.not_mem_nil, or_false, not_or] at off
    exact wpAny_pyIter_zip hz (h zp _ _ s.heap s.toks (zst_src D calm off) ⟨hp, h1, h2, ht1, ht2, .inl ⟨hz, hto⟩⟩ (fun _ _ e => e) fun b hb => .inl hb)
/-- dict(zip(t, u)) -/
theorem dict_zip {κ : Type} [DecidableEq κ] {knd : PySem.KeyKind prog w κ} {t1 t2 : Addr} {xs ys : Array Value} {kvs : List (κ × Value)} {Q : Value → Shared → Prop} (calm : A.handled = none) {zp ti to_ j1 j2 : Addr} (D : ZipApart zp ti to_ j1 j2 t1 t2)
    (all : IsZip s.heap zp ti to_ .none ∧ IsPair s.heap ti (.ref j1) (.ref j2) ∧ (∃ a b, IsPair s.heap to_ a b) ∧ s.heap.IsTupleIter j1 t1 0 ∧ s.heap.IsTupleIter j2 t2 0 ∧ s.heap.IsTuple t1 xs ∧ s.heap.IsTuple t2 ys)
    (keys : PairsHave knd (min xs.size ys.size) (fun i k v => xs[i]? = some k ∧ ys[i]? = some v) kvs) (few : min xs.size ys.size ≤ sizeLine)
    (fin : ∀ h' tk, h'.DictOf knd s.heap.objs.size (merged [] kvs) → (∀ b o, b ∉ [zp, to_, j1, j2] → s.heap.get? b = some o → h'.get? b = some o) → Q (.ref s.heap.objs.size) { s with heap := h', toks := tk }) :
    wpAny (model prog w) A (call (.type "dict") [.ref zp]) Q E s :=
  call_dict_pairs (zip_arg zp ti to_ j1 j2 t1 t2 D xs ys) calm all keys few fin
end
end PLz
namespace PL
open PySem PySem.Spec L2 PyProof.Rows
/-! ### an entry of the abstract heap told otherwise -/
section
variable {X : Cx} {pins : List (Addr × Obj)} {σ : L2.St} {H : Hp} {s : Shared} {d : Addr} {u v : HO}
theorem swap_inv (I : Inv X pins σ H s) (hd : H d = some u) (tup : ∀ xs, u ≠ .tup xs) (tbl : ∀ ps, u ≠ .tbl ps) (own : ∀ b, u ≠ .own b) (fr : ∀ o w, X.H_0 d ≠ some (.frz o w)) (ok : ObjOk X.prog X.w (upd H d v) s.heap d v) : Inv X pins σ (upd H d v) s := by
  have off : ∀ {b : Addr}, H b = none → b ≠ d := fun e q => by rw [q, hd] at e; cases e
  have same : ∀ {b : Addr}, H b = none → upd H d v b = none := fun e => by rw [upd_ne (off e)]; exact e
  refine ⟨I.ok, I.os, I.bare, ⟨I.base.keep, I.base.slot, fun b o e n hx => same (I.base.free b o e n hx), I.base.there, fun b xs e => ?_, fun b o w e => ?_, fun b ps e => ?_⟩, I.loc, I.cell, same I.free, fun x c e => same (I.freeC x c e), fun p hp => ?_, fun a o e => ?_, I.len⟩
  · have e1 := I.base.tups b xs e
    have n : b ≠ d := fun q => by rw [q, hd] at e1; cases e1; exact tup _ rfl
    rw [upd_ne n]; exact e1
  · have n : b ≠ d := fun q => by rw [q] at e; exact fr _ _ e
    rw [upd_ne n]; exact I.base.frzs b o w e
  · obtain ⟨more, e1⟩ := I.base.tbls b ps e
    have n : b ≠ d := fun q => by rw [q, hd] at e1; cases e1; exact tbl _ rfl
    exact ⟨more, by rw [upd_ne n]; exact e1⟩
  · obtain ⟨h1, h2, h3⟩ := I.pin p hp
    exact ⟨h1, same h2, h3⟩
  · by_cases q : a = d
    · subst q
      rw [upd_same] at e; cases e
      exact ok
    · rw [upd_ne q] at e
      refine (I.hok a o e).stay (fun b w _ z => z) (fun b z => ?_) fun b xs z => ?_
      · have n : b ≠ d := fun q => by rw [q, hd] at z; cases z; exact own _ rfl
        rw [upd_ne n]; exact z
      · have n : b ≠ d := fun q => by rw [q, hd] at z; cases z; exact tup _ rfl
        rw [upd_ne n]; exact z
/-- a dict held still while e is found -/
theorem pe_still {e : Expr} {t : TE} (h : PE X e t) : PE X e (fun σ H Q => ∃ d kvs, H d = some (.dK kvs) ∧ ∀ o, t σ (upd H d (.frz o (.dK kvs))) fun x H' => ∃ o' kvs', H' d = some (.frz o' (.dK kvs')) ∧ Q x (upd H' d (.dK kvs'))) := by
  refine ⟨fun pins s σ H Q I want => ?_⟩
  obtain ⟨d, kvs, hd, want⟩ := want
  have ok := I.hok d _ hd
  obtain ⟨few, off, vs, rel, dd⟩ := (show ObjOk X.prog X.w H s.heap d (.dK kvs) from ok)
  obtain ⟨ob, es, ep, e1, e2⟩ := id dd
  have fr : ∀ o w, X.H_0 d ≠ some (.frz o w) := fun o w z => by
    have := I.base.frzs d o w z
    rw [hd] at this; cases this
  have I1 := swap_inv (v := .frz ob (.dK kvs)) I hd (fun _ z => by cases z) (fun _ z => by cases z) (fun _ z => by cases z) fr ⟨e1, few, off, vs, rel, dd⟩
  refine thn (h.run pins s σ _ _ I1 (want ob)) fun r s1 ⟨x, H1, I2, rx, o', kvs', h1, q⟩ => ?_
  obtain ⟨_, ok1⟩ := (show ObjOk X.prog X.w H1 s1.heap d (.frz o' (.dK kvs')) from I2.hok d _ h1)
  exact ⟨x, _, swap_inv (v := .dK kvs') I2 h1 (fun _ z => by cases z) (fun _ z => by cases z) (fun _ z => by cases z) fr ok1, rx, q⟩
end
/-! ### keys, tables -/
def kP : Key → PV
  | .inl i => .int i
  | .inr x => .str x
theorem kP_rep {K : Kf} {H : Hp} : ∀ k : Key, Rep K H (kP k) (kV k)
  | .inl i => .int i
  | .inr x => .str x
theorem kP_inv {K : Kf} {H : Hp} {k : Key} {v : V} (h : Rep K H (kP k) v) : v = kV k := by
  cases k with
  | inl i => cases h; rfl
  | inr x => cases h; rfl
def valP (kvs : List (Key × PV)) (k : Key) : Option PV := (kvs.find? fun kv => decide (kv.1 = k)).map (·.2)
def putP (kvs : List (Key × PV)) (k : Key) (v : PV) : List (Key × PV) :=
  if (kvs.any fun kv => decide (kv.1 = k)) = true then kvs.map (fun kv => if kv.1 = k then (kv.1, v) else kv) else kvs ++ [(k, v)]
def mergeP (kvs more : List (Key × PV)) : List (Key × PV) := more.foldl (fun acc kv => putP acc kv.1 kv.2) kvs
section
variable {K : Kf} {H : Hp}
theorem RepKV.len {ps : List (Key × PV)} {vs : List (Key × V)} (h : RepKV K H ps vs) : ps.length = vs.length := by
  induction h with
  | nil => rfl
  | cons _ _ ih => exact congrArg (· + 1) ih
theorem RepKV.any {ps : List (Key × PV)} {vs : List (Key × V)} (h : RepKV K H ps vs) (k : Key) : (ps.any fun kv => decide (kv.1 = k)) = vs.any fun kv => decide (kv.1 = k) := by
  induction h with
  | nil => rfl
  | cons _ _ ih => rw [List.any_cons, List.any_cons, ih]
theorem RepKV.val {ps : List (Key × PV)} {vs : List (Key × V)} (h : RepKV K H ps vs) (k : Key) : (valP ps k = none ∧ valV vs k = none) ∨ ∃ p v, valP ps k = some p ∧ valV vs k = some v ∧ Rep K H p v := by
  induction h with
  | nil => exact .inl ⟨rfl, rfl⟩
  | @cons j p v ps vs r _ ih =>
    by_cases e : j = k
    · exact .inr ⟨p, v, by simp [valP, e], by simp [valV, e], r⟩
    · have e1 : valP ((j, p) :: ps) k = valP ps k := by simp [valP, List.find?_cons, e]
      have e2 : valV ((j, v) :: vs) k = valV vs k := by simp [valV, List.find?_cons, e]
      rw [e1, e2]; exact ih
theorem RepKV.snoc {ps : List (Key × PV)} {vs : List (Key × V)} (h : RepKV K H ps vs) {k : Key} {p : PV} {v : V} (r : Rep K H p v) : RepKV K H (ps ++ [(k, p)]) (vs ++ [(k, v)]) := by
  induction h with
  | nil => exact .cons r .nil
  | cons a _ ih => exact .cons a ih
theorem RepKV.repl {ps : List (Key × PV)} {vs : List (Key × V)} (h : RepKV K H ps vs) (k : Key) {p : PV} {v : V} (r : Rep K H p v) : RepKV K H (ps.map fun kv => if kv.1 = k then (kv.1, p) else kv) (vs.map fun kv => if kv.1 = k then (kv.1, v) else kv) := by
  induction h with
  | nil => exact .nil
  | @cons j p' v' ps vs a _ ih =>
    rw [List.map_cons, List.map_cons]
    by_cases e : j = k
    · simp only [if_pos e]; exact .cons r ih
    · simp only [if_neg e]; exact .cons a ih
theorem RepKV.put {ps : List (Key × PV)} {vs : List (Key × V)} (h : RepKV K H ps vs) (k : Key) {p : PV} {v : V} (r : Rep K H p v) : RepKV K H (putP ps k p) (putK vs k v) := by
  have any := h.any k
  unfold putP putK
  rw [← any]
  split
  · exact h.repl k r
  · exact h.snoc r
theorem RepKV.merge {more : List (Key × PV)} {mv : List (Key × V)} (hm : RepKV K H more mv) : ∀ {ps : List (Key × PV)} {vs : List (Key × V)}, RepKV K H ps vs → RepKV K H (mergeP ps more) (mergeK vs mv) := by
  induction hm with
  | nil => intro ps vs h; exact h
  | @cons k p v _ _ r _ ih => intro ps vs h; exact ih (h.put k r)
theorem RepKV.zip {ks : List Key} : ∀ {ps : List PV} {vs : List V}, Reps K H ps vs → RepKV K H (ks.zip ps) (ks.zip vs) := by
  induction ks with
  | nil => intro ps vs _; exact .nil
  | cons k ks ih =>
    intro ps vs h
    cases h with
    | nil => exact .nil
    | cons r t => exact .cons r (ih t)
end
theorem putP_new {kvs : List (Key × PV)} {k : Key} (v : PV) (h : k ∉ kvs.map (·.1)) : putP kvs k v = kvs ++ [(k, v)] := by
  unfold putP
  rw [if_neg]
  intro h2
  obtain ⟨kv, h3, h4⟩ := List.any_eq_true.mp h2
  exact h (List.mem_map.mpr ⟨kv, h3, of_decide_eq_true h4⟩)
theorem mergeP_new : ∀ {more kvs : List (Key × PV)}, ((kvs ++ more).map (·.1)).Nodup → mergeP kvs more = kvs ++ more
  | [], kvs, _ => by show kvs = _; rw [List.append_nil]
  | (k, v) :: r, kvs, h => by
    have h1 : k ∉ kvs.map (·.1) := fun hk => by
      rw [List.map_append] at h
      exact (List.nodup_append.mp h).2.2 _ hk _ (by simp) rfl
    show mergeP (putP kvs k v) r = _
    rw [putP_new v h1, mergeP_new (by rw [List.append_assoc]; exact h), List.append_assoc]; rfl
end PL

set_option Elab.async false
set_option linter.all false
set_option maxRecDepth 100000
set_option maxHeartbeats 2000000
/-! PL14: dicts with whole numbers and texts as keys, in the data layer. -/
namespace PL
open PySem PySem.Spec L2
section
variable {X : Cx} {H0 : Hp} {pos : Pos} {K : Kf}
/-- a dict that is read -/
def rdD (M : PHp) (a : Addr) (kvs : List (Key × PV)) : Prop := M a = some (.dK kvs) ∨ ∃ o vs, M a = some (.rK o vs kvs)
theorem rdD.to {H : Hp} {M : PHp} {a : Addr} {kvs : List (Key × PV)} (h : rdD M a kvs) (m : RelM K H M) : ∃ vs, Rd H a (.dK vs) ∧ RepKV K H kvs vs := by
  rcases h with h | ⟨o, vs, h⟩
  · obtain ⟨vs, e, r⟩ := m a _ h
    exact ⟨vs, .inl e, r⟩
  · obtain ⟨e, r⟩ := m a _ h
    exact ⟨vs, .inr ⟨o, e⟩, r⟩
theorem new_dK {H : Hp} {M : PHp} {p : Addr} {l : List (Key × PV)} {vs : List (Key × V)} {Q : VK} {Qp : PVK} (m : RelM K H M) (hp : H p = none) (r : RepKV K H l vs)
    (u : ∀ p, M p = none → Qp (.ref p) (updM M p (.dK l))) (k : Kont K H Q Qp) : Q (.ref p) (upd H p (.dK vs)) := by
  have t : Tk K H (upd H p (.dK vs)) := .new hp
  exact k _ _ _ _ t (m.put (m := .dK l) t ⟨vs, upd_same, r.mono t⟩) (.ref p) (u p (m.fresh hp))
theorem Tk_dK {H : Hp} {M : PHp} {a : Addr} {l l' : List (Key × PV)} {vs vs' : List (Key × V)} (m : RelM K H M) (e : H a = some (.dK vs)) (r : RepKV K H l' vs') : Tk K H (upd H a (.dK vs')) ∧ RelM K (upd H a (.dK vs')) (updM M a (.dK l')) := by
  have t : Tk K H (upd H a (.dK vs')) := .dK e
  exact ⟨t, m.put (m := .dK l') t ⟨vs', upd_same, r.mono t⟩⟩
/-! {} -/
@[reducible] def tDNew : TEp := fun _ M Q => ∀ p, M p = none → Q (.ref p) (updM M p (.dK []))
theorem pdnew : PEp X H0 (.Dict [] [] pos) tDNew := peW pe_dnewK fun σ H Q ⟨σp, M, Qp, t, s, m, u, k⟩ p hp => new_dK m hp .nil u k
/-! d[k] -/
variable {o i e f value : Expr} {td ti te tv tx : TEp} {ta : TAp}
@[reducible] def tDGet (td ti : TEp) : TEp := fun σ M Q => td σ M fun x M1 => ti σ M1 fun y M2 => match x with | .ref a => ∃ kvs k p, rdD M2 a kvs ∧ y = kP k ∧ valP kvs k = some p ∧ Q p M2 | _ => False
theorem pdget (hu : X.A.units + 1 < cLine) (ho : PEp X H0 o td) (hi : PEp X H0 i ti) (hs : NoSl i := by exact fun _ _ => rfl) : PEp X H0 (.Subscript o i pos) (tDGet td ti) :=
  peW (pe_dget hu ho hi hs) fun σ H Q ⟨σp, M, Qp, t, s, m, u, k⟩ => ⟨σp, M, _, t, s, m, u, fun x H1 px M1 t1 m1 rx u1 => ⟨σp, M1, _, t.trans t1, s.mono t1, m1, u1, fun y H2 py M2 t2 m2 ry u2 => by
    cases rx with
    | ref a =>
      obtain ⟨kvs, kk, p, hd, rfl, hv, q⟩ := u2
      obtain ⟨vs, e1, r⟩ := hd.to m2
      rcases r.val kk with ⟨n1, _⟩ | ⟨p', v, n1, n2, rv⟩
      · rw [n1] at hv; cases hv
      · rw [n1] at hv; cases hv
        exact ⟨a, v, rfl, .inl ⟨vs, kk, e1, kP_inv ry, n2.symm⟩, k _ _ _ _ (t1.trans t2) m2 rv q⟩
    | _ => exact u2.elim⟩⟩
/-! d.get(k, x) -/
@[reducible] def tDGet2 (td ti tx : TEp) : TEp := fun σ M Q => td σ M fun x M1 => match x with
  | .ref a => (∃ kvs, rdD M1 a kvs) ∧ ti σ M1 fun y M2 => tx σ M2 fun z M3 => ∃ kvs k, rdD M3 a kvs ∧ y = kP k ∧ Q ((valP kvs k).getD z) M3
  | _ => False
theorem pdget2 {apos cpos : Pos} (hu : X.A.units + 1 < cLine) (ho : PEp X H0 o td) (he : PEp X H0 e te) (hf : PEp X H0 f tx) (m : M2 X o "get" apos e f cpos := by exact ⟨rfl, rfl, rfl, rfl⟩) : PEp X H0 (.Call (.Attribute o "get" apos) [e, f] [] cpos) (tDGet2 td te tx) :=
  peW (pe_dget2 hu ho he hf m) fun σ H Q ⟨σp, M, Qp, t, s, m, u, k⟩ => ⟨σp, M, _, t, s, m, u, fun x H1 px M1 t1 m1 rx u1 => by
    cases rx with
    | ref a =>
      obtain ⟨⟨kv0, hd0⟩, u1⟩ := u1
      obtain ⟨vs0, e0, _⟩ := hd0.to m1
      refine ⟨a, rfl, .inl ⟨vs0, e0⟩, σp, M1, _, t.trans t1, s.mono t1, m1, u1, fun y H2 py M2 t2 m2 ry u2 => ⟨σp, M2, _, (t.trans t1).trans t2, (s.mono t1).mono t2, m2, u2, fun z H3 pz M3 t3 m3 rz u3 => ?_⟩⟩
      obtain ⟨kvs, kk, hd, rfl, q⟩ := u3
      obtain ⟨vs, e1, r⟩ := hd.to m3
      refine ⟨valV vs kk, .inl ⟨vs, kk, e1, kP_inv ry, rfl⟩, ?_⟩
      rcases r.val kk with ⟨n1, n2⟩ | ⟨p', v, n1, n2, rv⟩
      · rw [n1] at q; rw [n2]
        exact k _ _ _ _ ((t1.trans t2).trans t3) m3 rz q
      · rw [n1] at q; rw [n2]
        exact k _ _ _ _ ((t1.trans t2).trans t3) m3 rv q
    | _ => exact u1.elim⟩
/-! d[k] = v -/
@[reducible] def sDPut (td ti tv : TEp) : TSp := fun D σ M => tv σ M fun v M1 => td σ M1 fun x M2 => ti σ M2 fun y M3 => match x with
  | .ref a => ∃ kvs k, M3 a = some (.dK kvs) ∧ y = kP k ∧ kvs.length < sizeLine ∧ D.nx σ (updM M3 a (.dK (putP kvs k v)))
  | _ => False
theorem psdput {pos' : Pos} (hu : X.A.units + 1 < cLine) (ho : PEp X H0 o td) (hi : PEp X H0 i ti) (hv : PEp X H0 value tv) (hs : swapsWith value (some (.Subscript o i pos')) pos.line X.env = pure false := by rfl) :
    PSp' X H0 (.Assign [.Subscript o i pos'] value pos) (sDPut td ti tv) :=
  psW (ps_dput hu ho hi hv hs) fun D σ H ⟨σp, M, Dp, t, s, m, u, k⟩ => ⟨σp, M, _, t, s, m, u, fun v H1 pv M1 t1 m1 rv u1 => ⟨σp, M1, _, t.trans t1, s.mono t1, m1, u1, fun x H2 px M2 t2 m2 rx u2 => ⟨σp, M2, _, (t.trans t1).trans t2, (s.mono t1).mono t2, m2, u2, fun y H3 py M3 t3 m3 ry u3 => by
    cases rx with
    | ref a =>
      obtain ⟨kvs, kk, hd, rfl, few, q⟩ := u3
      obtain ⟨vs, e1, r⟩ := m3 _ _ hd
      obtain ⟨t4, m4⟩ := Tk_dK (l := kvs) m3 e1 (r.put kk ((rv.mono t2).mono t3))
      exact ⟨a, _, rfl, .inl ⟨vs, kk, e1, kP_inv ry, by rw [← r.len]; exact few, rfl⟩, k.nx _ _ _ _ (((t1.trans t2).trans t3).trans t4) ((((s.mono t1).mono t2).mono t3).mono t4) m4 q⟩
    | _ => exact u3.elim⟩⟩⟩
/-! list(d) -/
def listDP : RCp := fun xs M Q => match xs with
  | [.ref a] => ∃ kvs, M a = some (.dK kvs) ∧ ∀ p, M p = none → Q (.ref p) (updM M p (.lst (kvs.map fun kv => kP kv.1)))
  | _ => False
theorem RepKV.keys {H : Hp} {kvs : List (Key × PV)} {vs : List (Key × V)} (h : RepKV K H kvs vs) : Reps K H (kvs.map fun kv => kP kv.1) (vs.map fun kv => kV kv.1) := by
  induction h with
  | nil => exact .nil
  | cons _ _ ih => exact .cons (kP_rep _) ih
theorem cListD (hc : X.calm = true) : CallP X (.type "list") listDP := by
  refine ⟨_, call_list_dK hc, fun xs H ps M Q Qp rs m u k => ?_⟩
  cases rs with
  | nil => exact u.elim
  | cons r rr => cases rr with
    | cons _ _ => cases r <;> exact u.elim
    | nil => cases r with
      | ref a =>
        obtain ⟨kvs, hd, q⟩ := u
        obtain ⟨vs, e, rk⟩ := m _ _ hd
        exact ⟨a, vs, rfl, e, fun p hp => new_lst m hp rk.keys q k⟩
      | _ => exact u.elim
/-! a dict that stands still -/
@[reducible] def tStill (te : TEp) : TEp := fun σ M Q => ∃ d kvs, M d = some (.dK kvs) ∧ ∀ o vs, te σ (updM M d (.rK o vs kvs)) fun x M1 => M1 d = some (.rK o vs kvs) ∧ Q x (updM M1 d (.dK kvs))
theorem no_tupF {H : Hp} {p : Addr} {o : Obj} {vs : List (Key × V)} (h : H p = some (.frz o (.dK vs))) : ∀ xs, ¬ Rd H p (.tup xs) := fun xs e => by
  rcases e with e | ⟨u, e⟩
  · rw [h] at e; cases e
  · rw [h] at e; cases e
theorem pstill (he : PEp X H0 e te) : PEp X H0 e (tStill te) :=
  peW (pe_still he) fun σ H Q ⟨σp, M, Qp, t, s, m, ⟨d, kvs, hd, u⟩, k⟩ => by
    obtain ⟨vs, e1, r⟩ := m _ _ hd
    refine ⟨d, vs, e1, fun ob => ?_⟩
    have t1 : Tk X.K H (upd H d (.frz ob (.dK vs))) := .dK e1
    have m1 : RelM X.K (upd H d (.frz ob (.dK vs))) (updM M d (.rK ob vs kvs)) := m.put (m := .rK ob vs kvs) t1 ⟨upd_same, r.mono t1⟩
    refine ⟨σp, _, _, t.trans t1, s.mono t1, m1, u ob vs, fun x H2 px M2 t2 m2 rx ⟨h2, q⟩ => ?_⟩
    obtain ⟨e2, r2⟩ := m2 _ _ h2
    have t3 : Tk X.K H2 (upd H2 d (.dK vs)) := .upd (no_tupF e2)
    exact ⟨ob, vs, e2, k _ _ _ _ ((t1.trans t2).trans t3) (m2.put (m := .dK kvs) t3 ⟨vs, upd_same, r2.mono t3⟩) (rx.mono t3) q⟩
theorem ps_still {st : Stmt} {t : TS} (h : PS X st t) : PS X st (fun D σ H => ∃ d kvs, H d = some (.dK kvs) ∧ ∀ o, t { nx := fun σ' H' => ∃ o' kvs', H' d = some (.frz o' (.dK kvs')) ∧ D.nx σ' (upd H' d (.dK kvs')), rt := fun _ _ => False } σ (upd H d (.frz o (.dK kvs)))) := by
  refine ⟨fun pins s σ H D I want => ?_⟩
  obtain ⟨d, kvs, hd, want⟩ := want
  have ok := I.hok d _ hd
  obtain ⟨few, off, vs, rel, dd⟩ := (show ObjOk X.prog X.w H s.heap d (.dK kvs) from ok)
  obtain ⟨ob, es, ep, e1, e2⟩ := id dd
  have fr : ∀ o w, X.H_0 d ≠ some (.frz o w) := fun o w z => by
    have := I.base.frzs d o w z
    rw [hd] at this; cases this
  have I1 := swap_inv (v := .frz ob (.dK kvs)) I hd (fun _ z => by cases z) (fun _ z => by cases z) (fun _ z => by cases z) fr ⟨e1, few, off, vs, rel, dd⟩
  refine thn (h.run pins s σ _ _ I1 (want ob)) fun f s1 sp => ?_
  cases f with
  | next =>
    obtain ⟨σ', H1, I2, o', kvs', h1, q⟩ := sp
    obtain ⟨_, ok1⟩ := (show ObjOk X.prog X.w H1 s1.heap d (.frz o' (.dK kvs')) from I2.hok d _ h1)
    exact ⟨σ', _, swap_inv (v := .dK kvs') I2 h1 (fun _ z => by cases z) (fun _ z => by cases z) (fun _ z => by cases z) fr ok1, q⟩
  | brk => obtain ⟨_, _, _, q⟩ := sp; exact q.elim
  | cont => obtain ⟨_, _, _, q⟩ := sp; exact q.elim
  | ret u => obtain ⟨_, _, _, _, _, q⟩ := sp; exact q.elim
@[reducible] def tStillS (ts : TSp) : TSp := fun D σ M => ∃ d kvs, M d = some (.dK kvs) ∧ ∀ o vs, ts { nx := fun σ' M' => M' d = some (.rK o vs kvs) ∧ D.nx σ' (updM M' d (.dK kvs)), rt := fun _ _ => False } σ (updM M d (.rK o vs kvs))
theorem psstill {st : Stmt} {ts : TSp} (h : PSp' X H0 st ts) : PSp' X H0 st (tStillS ts) :=
  psW (ps_still h) fun D σ H ⟨σp, M, Dp, t, s, m, ⟨d, kvs, hd, u⟩, k⟩ => by
    obtain ⟨vs, e1, r⟩ := m _ _ hd
    refine ⟨d, vs, e1, fun ob => ?_⟩
    have t1 : Tk X.K H (upd H d (.frz ob (.dK vs))) := .dK e1
    have m1 : RelM X.K (upd H d (.frz ob (.dK vs))) (updM M d (.rK ob vs kvs)) := m.put (m := .rK ob vs kvs) t1 ⟨upd_same, r.mono t1⟩
    refine ⟨σp, _, _, t.trans t1, s.mono t1, m1, u ob vs, ⟨fun σ2 H2 σp2 M2 t2 s2 m2 ⟨h2, q⟩ => ?_, fun _ _ _ _ _ _ _ q => q.elim, fun _ _ _ _ _ _ _ q => q.elim, fun _ _ _ _ _ _ _ q => q.elim⟩⟩
    obtain ⟨e2, r2⟩ := m2 _ _ h2
    have t3 : Tk X.K H2 (upd H2 d (.dK vs)) := .upd (no_tupF e2)
    exact ⟨ob, vs, e2, k.nx _ _ _ _ ((t1.trans t2).trans t3) (s2.mono t3) (m2.put (m := .dK kvs) t3 ⟨vs, upd_same, r2.mono t3⟩) q⟩
theorem u1 {n c : Nat} (h : n + 64 < c) : n + 1 < c := by omega
/-- over the keys of a dict that stands still -/
@[reducible] def iKeysP (td : TEp) : TIp := fun σ M R => td σ M fun x M1 => match x with | .ref a => ∃ o vs kvs, M1 a = some (.rK o vs kvs) ∧ R (kvs.map fun kv => kP kv.1) (fun M => M a = some (.rK o vs kvs)) M1 | _ => False
theorem RepKV.at {H : Hp} {kvs : List (Key × PV)} {vs : List (Key × V)} (h : RepKV K H kvs vs) : ∀ {i : Nat} {k : Key} {v : V}, vs[i]? = some (k, v) → ∃ p, kvs[i]? = some (k, p) := by
  induction h with
  | nil => intro i k v e; simp at e
  | @cons j p w ps ws _ _ ih =>
    intro i k v e
    cases i with
    | zero => simp at e; exact ⟨p, by rw [e.1]; rfl⟩
    | succ i => simp at e; obtain ⟨p, hp⟩ := ih e; exact ⟨p, by simpa using hp⟩
theorem pikeys {tg e : Expr} {td : TEp} (h : PEp X H0 e td) : PIp' X H0 tg e (iKeysP td) :=
  piW (pi_keys h) fun σ H R ⟨σp, M, Rp, t, s, m, u, k⟩ => ⟨σp, M, _, t, s, m, u, fun x H1 px M1 t1 m1 rx u1 => by
    cases rx with
    | ref a =>
      obtain ⟨o, vs, kvs, hd, q⟩ := u1
      obtain ⟨e1, r⟩ := m1 _ _ hd
      have len : (kvs.map fun kv => kP kv.1).length = vs.length := by rw [List.length_map]; exact r.len
      refine ⟨a, o, rfl, .inl ⟨vs, e1, k _ _ _ _ _ t1 m1 ⟨fun i H2 M2 t2 m2 hk hi => ?_, fun i H2 M2 x H3 t2 m2 hk hi y => ?_, fun H2 M2 t2 m2 hk => ?_⟩ q⟩⟩
      · obtain ⟨e2, _⟩ := m2 _ _ hk
        exact ⟨e2, by rw [← len]; exact hi⟩
      · obtain ⟨rfl, kk, v, e3, rfl⟩ := y
        obtain ⟨p, hp⟩ := r.at e3
        exact ⟨kP kk, by rw [List.getElem?_map, hp]; rfl, kP_rep _, Tk.refl _ _, fun _ h => h⟩
      · obtain ⟨e2, _⟩ := m2 _ _ hk
        exact ⟨e2, by rw [len]; exact Nat.le_refl _⟩
    | _ => exact u1.elim⟩
/-! dict(zip(t, u)) -/
def xDz (K : Kf) (t : TA) : TE := fun σ H Q => t σ H fun vs H1 => ∃ (a b : Addr) (ks : List Key) (ys : List V), vs = [.ref a, .ref b] ∧ SqT K H1 a (ks.map kV) ∧ SqT K H1 b ys ∧ ∀ p, H1 p = none → Q (.ref p) (upd H1 p (.dK (mergeK [] (ks.zip ys))))
theorem vals_get : ∀ {xs : List V} {us : List Value} {i : Nat} {x : V}, Vals xs us → xs[i]? = some x → ∃ u, us[i]? = some u ∧ RelV x u
  | _, _, _, _, .nil, e => by simp at e
  | _, _, 0, _, .cons r _, e => by simp at e; subst e; exact ⟨_, rfl, r⟩
  | _, _, i + 1, _, .cons _ t, e => by
    obtain ⟨u, h1, h2⟩ := vals_get (i := i) t (by simpa using e)
    exact ⟨u, by simpa using h1, h2⟩
theorem kv_zip : ∀ {ks : List Key} {ys : List V} {us : List Value}, Vals ys us → KV (ks.zip ys) (ks.zip us)
  | [], _, _, _ => .nil
  | _ :: _, _, _, .nil => .nil
  | k :: ks, _, _, .cons r t => .cons ⟨rfl, r⟩ (kv_zip (ks := ks) t)
open PyProof.Rows in
theorem pe_dictzip {e1 e2 : Expr} {p p2 pos2 : Pos} {t : TA} (hc : X.calm = true) (gd : Gl X "dict") (md : X.mg "dict" = none) (gz : Gl X "zip") (mz : X.mg "zip" = none) (ha : PA X [e1, e2] t)
    (s1 : starEach [e1, e2] X.env = (false, eval e1 X.env) :: starEach [e2] X.env := by rfl) (pl : (backTo pos2 (starEach [e2] X.env)).any (·.1) = false := by rfl)
    (s2 : starEach [.Call (.Name "zip" p2) [e1, e2] [] pos2] X.env = (false, eval (.Call (.Name "zip" p2) [e1, e2] [] pos2) X.env) :: starEach [] X.env := by rfl) :
    PE X (.Call (.Name "dict" p) [.Call (.Name "zip" p2) [e1, e2] [] pos2] [] pos) (xDz X.K t) := by
  refine ⟨fun pins s σ H Q I want => ?_⟩
  refine Call_ (ld_blt I gd md PyProof.Rows.boot_dict (PyProof.Rows.callWith_type1 (PyProof.Rows.args_cons (Call_ (ld_blt I gz mz PyProof.Rows.boot_zip (PyProof.Rows.callWith_type1 (thn (ha.run pos2 pins s σ H _ I want) fun us st ⟨vs, H1, I1, r1, a, b, ks, ys, ev, ta, tb, q⟩ => ?_) s1 pl))) s2) s2))
  subst ev
  obtain ⟨u1, u2, eu, ra, rb⟩ := vals2 r1
  subst eu
  cases ra
  cases rb
  obtain ⟨its, rv, p1, few1⟩ := I1.tuple ta
  obtain ⟨jts, rw', p2', few2⟩ := I1.tuple tb
  obtain ⟨o1, ho1, _⟩ := id p1
  obtain ⟨o2, ho2, _⟩ := id p2'
  refine RZ.call_zipT (show st.heap.IsTuple a its.toArray from p1) (show st.heap.IsTuple b jts.toArray from p2') fun h1 hz hp hto h1a h2a size keep => PyProof.Rows.args_nil ?_
  have klen : ks.length = its.length := by have := rv.length; rwa [List.length_map] at this
  refine PLz.dict_zip (s := { st with heap := h1 }) (knd := mixKind X.prog X.w) (xs := its.toArray) (ys := jts.toArray) (kvs := ks.zip jts) (I1.ok.hd hc) (PySem.W.ktu_apart st.heap.objs.size a b (Heap.lt_size ho1) (Heap.lt_size ho2))
    ⟨hz, hp, ⟨_, _, hto⟩, h1a, h2a, (show st.heap.IsTuple a its.toArray from p1).at fun o e => keep _ o e, (show st.heap.IsTuple b jts.toArray from p2').at fun o e => keep _ o e⟩ ⟨by rw [List.length_zip, klen, List.size_toArray, List.size_toArray], fun i key v ⟨x1, x2⟩ => ?_⟩ ?_ fun h2 tk dd stay => ?_
  · rw [List.getElem?_toArray] at x1 x2
    have hi := (List.getElem?_eq_some_iff.mp x1).1
    have hk : ks[i]? = some (ks[i]'(by omega)) := List.getElem?_eq_getElem _
    refine ⟨ks[i]'(by omega), List.getElem?_zip_eq_some.mpr ⟨hk, x2⟩, kV_is ?_⟩
    have : (ks.map kV)[i]? = some (kV (ks[i]'(by omega))) := by rw [List.getElem?_map, hk]; rfl
    obtain ⟨z, z1, z2⟩ := vals_get rv this
    rw [x1] at z1; cases z1; exact z2
  · have := rw'.length
    rw [List.size_toArray, List.size_toArray]; omega
  · have big := I1.big
    refine ⟨.ref h1.objs.size, _, I1.laid (t' := tk) (a := h1.objs.size) (o := .dK (mergeK [] (ks.zip ys))) (fun b2 o e => stay b2 o (fun hm => ?_) (keep b2 o e)) (by omega) ?_, rfl, q _ (I1.hok.fresh (by omega))⟩
    · have under := Heap.lt_size e
      obtain ⟨c1, c2, c3, c4⟩ : b2 ≠ st.heap.objs.size + 4 ∧ b2 ≠ st.heap.objs.size + 3 ∧ b2 ≠ st.heap.objs.size ∧ b2 ≠ st.heap.objs.size + 1 := ⟨Nat.ne_of_lt (Nat.lt_of_lt_of_le under (Nat.le_add_right _ _)), Nat.ne_of_lt (Nat.lt_of_lt_of_le under (Nat.le_add_right _ _)), Nat.ne_of_lt under, Nat.ne_of_lt (Nat.lt_of_lt_of_le under (Nat.le_add_right _ _))⟩
      simp only [List.mem_cons, List.not_mem_nil, or_false] at hm
      rcases hm with z | z | z | z
      · exact c1 z
      · exact c2 z
      · exact c3 z
      · exact c4 z
    · have lm := length_mergeK (ks.zip ys) []
      have lz : (ks.zip ys).length ≤ ys.length := by rw [List.length_zip]; exact Nat.min_le_right _ _
      exact dk_new (by rw [List.length_nil] at lm; omega) (by
        rw [beq_eq_false_iff_ne]
        have le : st.heap.objs.size ≤ h1.objs.size := by rw [size]; exact Nat.le_add_right _ _
        exact Nat.ne_of_gt (Nat.lt_of_lt_of_le big le)) ((kv_zip rw').merge .nil) dd
@[reducible] def tDz (ta : TAp) : TEp := fun σ M Q => ta σ M fun ps M1 => ∃ (ks : List Key) (ys : List PV), ps = [.tup (ks.map kP), .tup ys] ∧ ∀ p, M1 p = none → Q (.ref p) (updM M1 p (.dK (mergeP [] (ks.zip ys))))
theorem reps_keys {H : Hp} : ∀ {ks : List Key} {vs : List V}, Reps K H (ks.map kP) vs → vs = ks.map kV
  | [], _, .nil => rfl
  | k :: _, _, .cons r t => by rw [kP_inv r, reps_keys t]; rfl
theorem pdictzip {e1 e2 : Expr} {p p2 pos2 : Pos} (hc : X.calm = true) (gd : Gl X "dict") (md : X.mg "dict" = none) (gz : Gl X "zip") (mz : X.mg "zip" = none) (ha : PAp X H0 [e1, e2] ta)
    (s1 : starEach [e1, e2] X.env = (false, eval e1 X.env) :: starEach [e2] X.env := by rfl) (pl : (backTo pos2 (starEach [e2] X.env)).any (·.1) = false := by rfl)
    (s2 : starEach [.Call (.Name "zip" p2) [e1, e2] [] pos2] X.env = (false, eval (.Call (.Name "zip" p2) [e1, e2] [] pos2) X.env) :: starEach [] X.env := by rfl) :
    PEp X H0 (.Call (.Name "dict" p) [.Call (.Name "zip" p2) [e1, e2] [] pos2] [] pos) (tDz ta) :=
  peW (pe_dictzip hc gd md gz mz ha s1 pl s2) fun σ H Q ⟨σp, M, Qp, t, s, m, u, k⟩ => ⟨σp, M, _, t, s, m, u, fun vs H1 ps M1 t1 m1 rs u1 => by
    obtain ⟨ks, ys, rfl, q⟩ := u1
    cases rs with
    | cons r1 rr => cases rr with
      | cons r2 rr2 =>
        cases rr2
        cases r1 with
        | tup ha1 ra => cases r2 with
          | tup hb1 rb =>
            have := reps_keys ra
            subst this
            exact ⟨_, _, ks, _, rfl, ha1.t, hb1.t, fun p hp => new_dK m1 hp (RepKV.merge (.zip rb) .nil) q fun v H2 p M2 t2 => k v H2 p M2 (t1.trans t2)⟩⟩
end
end PL

set_option Elab.async false
set_option linter.all false
set_option maxRecDepth 100000
set_option maxHeartbeats 4000000
/-! PL15: what is plain data is equal exactly if it is the same. -/
namespace PL
open PySem L2
section
variable {K : Kf}
/-- numbers, texts, tuples of them -/
inductive Dat : Nat → PV → Prop
  | int {n} (i) : Dat (n + 1) (.int i)
  | str {n} (x) : Dat (n + 1) (.str x)
  | tup {n l} : (∀ x ∈ l, Dat n x) → Dat (n + 1) (.tup l)
theorem Dat.dp {M : PHp} : ∀ {n : Nat} {x : PV}, Dat n x → DpP K M x (toD x)
  | _, _, .int _ => .int _
  | _, _, .str _ => .str _
  | n + 1, .tup l, .tup h => by
    refine .tup ?_
    have : ∀ l : List PV, (∀ x ∈ l, Dat n x) → DpsP K M l (toDs l) := by
      intro l
      induction l with
      | nil => intro _; exact .nil
      | cons x r ih => intro h; exact .cons (Dat.dp (h x List.mem_cons_self)) (ih fun y hy => h y (List.mem_cons_of_mem _ hy))
    exact this l h
theorem Dat.dps {M : PHp} {n : Nat} : ∀ {l : List PV}, (∀ x ∈ l, Dat n x) → DpsP K M l (toDs l)
  | [], _ => .nil
  | x :: r, h => .cons (Dat.dp (h x List.mem_cons_self)) (Dat.dps fun y hy => h y (List.mem_cons_of_mem _ hy))
theorem plains {n : Nat} (go : ∀ x, Dat n x → (toD x).plain = true ∧ (toD x).depth ≤ n) : ∀ {l : List PV}, (∀ x ∈ l, Dat n x) → PyData.plainAll (toDs l) = true ∧ PyData.depthAll (toDs l) ≤ n
  | [], _ => ⟨rfl, Nat.zero_le _⟩
  | x :: r, h => by
    obtain ⟨a1, a2⟩ := go x (h x List.mem_cons_self)
    obtain ⟨b1, b2⟩ := plains go fun y hy => h y (List.mem_cons_of_mem _ hy)
    refine ⟨by show ((toD x).plain && PyData.plainAll (toDs r)) = true; rw [a1, b1]; rfl, ?_⟩
    show max (toD x).depth (PyData.depthAll (toDs r)) ≤ n
    exact Nat.max_le.mpr ⟨a2, b2⟩
theorem Dat.flat : ∀ {n : Nat} {x : PV}, Dat n x → (toD x).plain = true ∧ (toD x).depth ≤ n
  | n + 1, _, .int _ => ⟨rfl, by show 0 ≤ _; omega⟩
  | n + 1, _, .str _ => ⟨rfl, by show 0 ≤ _; omega⟩
  | n + 1, .tup l, .tup h => by
    obtain ⟨h1, h2⟩ := plains (fun x hx => Dat.flat hx) h
    exact ⟨h1, by show PyData.depthAll (toDs l) + 1 ≤ n + 1; omega⟩
theorem Dat.flats {n : Nat} {l : List PV} (h : ∀ x ∈ l, Dat n x) : (PyData.list (toDs l)).plain = true ∧ (PyData.list (toDs l)).depth ≤ n + 1 := by
  obtain ⟨h1, h2⟩ := plains (fun x hx => Dat.flat hx) h
  exact ⟨h1, by show PyData.depthAll (toDs l) + 1 ≤ n + 1; omega⟩
theorem beq_iff {α : Type} [DecidableEq α] (a b : α) : ((a == b) = true) ↔ a = b := by rw [beq_iff_eq]
theorem eqvs {n : Nat} (go : ∀ x y, Dat n x → (PyData.eqv (toD x) (toD y) = true ↔ x = y) ∨ ¬ ∃ m, Dat m y) : ∀ {l r : List PV}, (∀ x ∈ l, Dat n x) → (∀ x ∈ r, ∃ m, Dat m x) → (PyData.eqvAll (toDs l) (toDs r) = true ↔ l = r)
  | [], [], _, _ => ⟨fun _ => rfl, fun _ => rfl⟩
  | [], y :: r, _, _ => ⟨fun h => (by cases h), fun h => (by cases h)⟩
  | x :: l, [], _, _ => ⟨fun h => (by cases h), fun h => (by cases h)⟩
  | x :: l, y :: r, h1, h2 => by
    have a := (go x y (h1 x List.mem_cons_self)).resolve_right fun h => h (h2 y List.mem_cons_self)
    have b := eqvs go (l := l) (r := r) (fun z hz => h1 z (List.mem_cons_of_mem _ hz)) fun z hz => h2 z (List.mem_cons_of_mem _ hz)
    show ((PyData.eqv (toD x) (toD y) && PyData.eqvAll (toDs l) (toDs r)) = true) ↔ _
    rw [Bool.and_eq_true, a, b]
    exact ⟨fun ⟨e1, e2⟩ => by rw [e1, e2], fun e => by cases e; exact ⟨rfl, rfl⟩⟩
theorem Dat.eqv : ∀ {n m : Nat} {x y : PV}, Dat n x → Dat m y → (PyData.eqv (toD x) (toD y) = true ↔ x = y)
  | n + 1, m + 1, _, _, .int i, .int j => by
    show (i == j) = true ↔ _
    rw [beq_iff]; exact ⟨fun e => by rw [e], fun e => by cases e; rfl⟩
  | n + 1, m + 1, _, _, .int i, .str j => ⟨fun h => (by cases h), fun h => (by cases h)⟩
  | n + 1, m + 1, _, .tup r, .int i, .tup _ => ⟨fun h => (by cases h), fun h => (by cases h)⟩
  | n + 1, m + 1, _, _, .str i, .int j => ⟨fun h => (by cases h), fun h => (by cases h)⟩
  | n + 1, m + 1, _, _, .str i, .str j => by
    show (i == j) = true ↔ _
    rw [beq_iff_eq]; exact ⟨fun e => by rw [e], fun e => by cases e; rfl⟩
  | n + 1, m + 1, _, .tup r, .str i, .tup _ => ⟨fun h => (by cases h), fun h => (by cases h)⟩
  | n + 1, m + 1, .tup l, _, .tup _, .int i => ⟨fun h => (by cases h), fun h => (by cases h)⟩
  | n + 1, m + 1, .tup l, _, .tup _, .str i => ⟨fun h => (by cases h), fun h => (by cases h)⟩
  | n + 1, m + 1, .tup l, .tup r, .tup h1, .tup h2 => by
    show PyData.eqvAll (toDs l) (toDs r) = true ↔ _
    rw [eqvs (n := n) (fun x y hx => by
      by_cases q : ∃ m, Dat m y
      · obtain ⟨m, hm⟩ := q
        exact .inl (Dat.eqv hx hm)
      · exact .inr q) h1 fun x hx => ⟨m, h2 x hx⟩]
    exact ⟨fun e => by rw [e], fun e => by cases e; rfl⟩
theorem eqvAll_dat {n m : Nat} {l r : List PV} (h1 : ∀ x ∈ l, Dat n x) (h2 : ∀ x ∈ r, Dat m x) : PyData.eqvAll (toDs l) (toDs r) = true ↔ l = r :=
  eqvs (n := n) (fun x y hx => by
      by_cases q : ∃ m, Dat m y
      · obtain ⟨m, hm⟩ := q
        exact .inl (Dat.eqv hx hm)
      · exact .inr q) h1 fun x hx => ⟨m, h2 x hx⟩
/-- x == y of plain data: the answer is told by a truth value that holds exactly if they are the same -/
theorem eqD_dat {n m : Nat} {x y : PV} {M : PHp} {R : Bool → Prop} (hx : Dat n x) (hy : Dat m y) (hn : n ≤ 64) (hm : m ≤ 64) (q : ∀ b : Bool, (b = true ↔ x = y) → R b) : eqD K x y M R :=
  eqD_fl hx.dp hy.dp ⟨hx.flat.1, Nat.le_trans hx.flat.2 hn⟩ ⟨hy.flat.1, Nat.le_trans hy.flat.2 hm⟩ (q _ (hx.eqv hy))
theorem eqD_same {n : Nat} {x : PV} {M : PHp} {R : Bool → Prop} (hx : Dat n x) (hn : n ≤ 64) (q : R true) : eqD K x x M R :=
  eqD_dat hx hx hn hn fun b hb => by rw [hb.mpr rfl]; exact q
/-- of two lists with plain data -/
theorem eqD_lists {n m : Nat} {a b : Addr} {l r : List PV} {M : PHp} {R : Bool → Prop} (ha : rdL K M a l) (hb : rdL K M b r) (hx : ∀ x ∈ l, Dat n x) (hy : ∀ x ∈ r, Dat m x) (hn : n ≤ 60) (hm : m ≤ 60) (q : ∀ t : Bool, (t = true ↔ l = r) → R t) : eqD K (.ref a) (.ref b) M R :=
  eqD_fl (.lst ha (Dat.dps hx)) (.lst hb (Dat.dps hy)) ⟨(Dat.flats hx).1, Nat.le_trans (Dat.flats hx).2 (by omega)⟩ ⟨(Dat.flats hy).1, Nat.le_trans (Dat.flats hy).2 (by omega)⟩ (q _ (eqvAll_dat hx hy))
theorem eqD_lsame {n : Nat} {a b : Addr} {l : List PV} {M : PHp} {R : Bool → Prop} (ha : rdL K M a l) (hb : rdL K M b l) (hx : ∀ x ∈ l, Dat n x) (hn : n ≤ 60) (q : R true) : eqD K (.ref a) (.ref b) M R :=
  eqD_lists ha hb hx hx hn hn fun t ht => by rw [ht.mpr rfl]; exact q
theorem dat_ints {n : Nat} (ns : List Int) : ∀ x ∈ ns.map PV.int, Dat (n + 1) x := fun x hx => by
  obtain ⟨i, _, rfl⟩ := List.mem_map.mp hx; exact .int i
theorem dat_strs {n : Nat} (ns : List Str) : ∀ x ∈ ns.map PV.str, Dat (n + 1) x := fun x hx => by
  obtain ⟨i, _, rfl⟩ := List.mem_map.mp hx; exact .str i
end
end PL

set_option Elab.async false
set_option linter.all false
set_option maxRecDepth 100000
set_option maxHeartbeats 4000000
/-! PL16: a test with a word behind it. -/
namespace PL
open PySem L2
section
variable {X : Cx} {H0 : Hp} {ts us : TSp} {pos : Pos}
/-- if, with a word about what the test has told -/
@[reducible] def tIfC (c : TTp) (t u : TSp) : TSp := fun D σ M => ∃ Mid : Bool → PHp → Prop, c σ M (fun b M1 => ∃ M0, Sub M0 M1 ∧ Mid b M0) ∧ ∀ b M', Mid b M' → br b (t D σ M') (u D σ M')
theorem psifc {c : Expr} {a b : List Stmt} {tc : TTp} (hc : PTp X H0 c tc) (ha : PSsp X H0 a ts) (hb : PSsp X H0 b us) : PSp' X H0 (.If c a b pos) (tIfC tc ts us) :=
  psW (ps_if hc ha hb) fun D σ H ⟨σp, M, Dp, t, s, m, ⟨Mid, u, q⟩, k⟩ => ⟨σp, M, _, t, s, m, u, fun c H1 M1 t1 m1 ⟨M0, sm, z⟩ => br_imp (q c M0 z)
    (fun q => ⟨σp, M0, Dp, t.trans t1, s.mono t1, m1.sub sm, q, k.mono t1⟩) fun q => ⟨σp, M0, Dp, t.trans t1, s.mono t1, m1.sub sm, q, k.mono t1⟩⟩
/-- none, or a thing -/
theorem isn_opt {α : Type} {f : α → PV} (hf : ∀ x, f x ≠ .non) {o : Option α} {M : PHp} {Q : PVK} (h : Q (.bl o.isNone) M) : isNP (match o with | none => .non | some x => f x) .non M Q := by
  cases o with
  | none => exact h
  | some x =>
    have := hf x
    show isNP (f x) .non M Q
    unfold isNP
    cases e : f x with
    | non => exact absurd e this
    | _ => exact h
end
end PL

set_option Elab.async false
set_option linter.all false
set_option maxRecDepth 100000
set_option maxHeartbeats 4000000
/-! PL17: classes of the program's own: attributes, methods, properties, making, instances called. -/
namespace PL
open PySem PySem.Spec L2
section
variable {X : Cx} {H0 : Hp} {pos : Pos} {K : Kf}
/-- where the module's class of that name stands -/
def clsA (K : Kf) (x : Str) : Addr := match PySem.W.nsIn K mainGlobals x with
  | some (some (.ref C)) => C
  | _ => 0
theorem clsA_of {x : Str} {C : Addr} (h : PySem.W.nsIn K mainGlobals x = some (some (.ref C))) : clsA K x = C := by unfold clsA; rw [h]
abbrev FldOk (K : Kf) (C : Addr) (f : Str) : Prop := Cls K C ∧ NoAttr K C f
def putX (f : Str) (v : PV) : List (Str × PV) → List (Str × PV)
  | [] => [(f, v)]
  | (g, x) :: r => if g = f then (g, v) :: r else (g, x) :: putX f v r
theorem RepXD.lk {H : Hp} {fs : List (Str × PV)} {vs : List (Str × V)} (h : RepXD K H fs vs) (f : Str) : (fs.lookup f = none ∧ vs.lookup f = none) ∨ ∃ p v, fs.lookup f = some p ∧ vs.lookup f = some v ∧ Rep K H p v := by
  induction h with
  | nil => exact .inl ⟨rfl, rfl⟩
  | @cons k p v ps vs r _ ih =>
    rw [List.lookup_cons, List.lookup_cons]
    by_cases q : (f == k) = true
    · rw [q]; exact .inr ⟨p, v, rfl, rfl, r⟩
    · rw [Bool.not_eq_true] at q; rw [q]; exact ih
theorem RepXD.put {H : Hp} {fs : List (Str × PV)} {vs : List (Str × V)} {f : Str} {p : PV} {v : V} (r : Rep K H p v) (h : RepXD K H fs vs) : RepXD K H (putX f p fs) (putF f v vs) := by
  induction h with
  | nil => exact .cons r .nil
  | @cons k p' v' ps vs r' t ih =>
    unfold putX putF
    by_cases q : k = f
    · rw [if_pos q, if_pos q]; exact .cons r t
    · rw [if_neg q, if_neg q]; exact .cons r' ih
theorem RepXD.len {H : Hp} {fs : List (Str × PV)} {vs : List (Str × V)} (h : RepXD K H fs vs) : fs.length = vs.length := by
  induction h with
  | nil => rfl
  | cons _ _ ih => exact congrArg (· + 1) ih
theorem lk_hit {f : Str} {v : PV} {fs : List (Str × PV)} : ((f, v) :: fs).lookup f = some v := by rw [List.lookup_cons, beq_self_eq_true]
theorem lk_miss {f g : Str} {v : PV} {fs : List (Str × PV)} {o : Option PV} (n : f ≠ g) (h : fs.lookup f = o) : ((g, v) :: fs).lookup f = o := by
  rw [List.lookup_cons, show (f == g) = false from beq_eq_false_iff_ne.mpr n]; exact h
theorem lk_nil {f : Str} : ([] : List (Str × PV)).lookup f = none := rfl
theorem px_hit {f : Str} {v u : PV} {fs : List (Str × PV)} : (f, v) :: fs = putX f v ((f, u) :: fs) := by unfold putX; rw [if_pos rfl]
theorem px_miss {f g : Str} {v u : PV} {fs fs' : List (Str × PV)} (n : f ≠ g) (h : fs' = putX f v fs) : (g, u) :: fs' = putX f v ((g, u) :: fs) := by
  conv => rhs; unfold putX
  rw [if_neg (Ne.symm n), ← h]
theorem px_nil {f : Str} {v : PV} : [(f, v)] = putX f v [] := rfl
theorem Tk.ins {H : Hp} {p C dx : Addr} {vs : List (Str × V)} {o : HO} (h : H p = some (.ins C dx vs)) : Tk K H (L2.upd H p o) := .upd (no_tup h (fun _ z => nomatch z) (fun _ _ z => nomatch z))
theorem Tk_ins {H : Hp} {M : PHp} {a C dx : Addr} {l' : List (Str × PV)} {vs vs' : List (Str × V)} (m : RelM K H M) (e : H a = some (.ins C dx vs)) (r : RepXD K H l' vs') : Tk K H (upd H a (.ins C dx vs')) ∧ RelM K (upd H a (.ins C dx vs')) (updM M a (.ins C dx l')) :=
  ⟨.ins e, m.put (.ins e) ⟨vs', upd_same, r.mono (.ins e)⟩⟩
/-! ### attributes -/
@[reducible] def tFldP (K : Kf) (te : TEp) (f : Str) : TEp := fun σ M Q => te σ M fun x M1 => match x with
  | .ref a => ∃ C dx fs v, M1 a = some (.ins C dx fs) ∧ FldOk K C f ∧ fs.lookup f = some v ∧ Q v M1
  | _ => False
theorem pfld {e : Expr} {f : Str} {te : TEp} (he : PEp X H0 e te) (hb : attributeBase e f X.env (eval e X.env) = eval e X.env := by rfl) (hK : X.K = K := by rfl) : PEp X H0 (.Attribute e f pos) (tFldP K te f) := by
  subst hK
  exact peW (pe_fld he hb) fun σ H Q ⟨σp, M, Qp, t, s, m, u, k⟩ => ⟨σp, M, _, t, s, m, u, fun x H1 px M1 t1 m1 rx u1 => by
    cases rx with
    | ref a =>
      obtain ⟨C, dx, fs, v, e1, ok, l, q⟩ := u1
      obtain ⟨vs, e2, r⟩ := m1 a _ e1
      rcases r.lk f with ⟨h, _⟩ | ⟨p, w, h1, h2, rv⟩
      · rw [l] at h; cases h
      · rw [l] at h1; cases h1
        exact ⟨a, C, dx, vs, w, rfl, e2, ok.1, ok.2, h2, k _ H1 _ M1 t1 m1 rv q⟩
    | _ => exact u1.elim⟩
@[reducible] def tFldS (K : Kf) (to tv : TEp) (f : Str) : TSp := fun D σ M => tv σ M fun v M1 => to σ M1 fun x M2 => match x with
  | .ref a => ∃ C dx fs fs', M2 a = some (.ins C dx fs) ∧ FldOk K C f ∧ fs.length < 1000 ∧ fs' = putX f v fs ∧ D.nx σ (updM M2 a (.ins C dx fs'))
  | _ => False
theorem psfld {o value : Expr} {f : Str} {to tv : TEp} {pos' : Pos} (ho : PEp X H0 o to) (hv : PEp X H0 value tv) (hs : swapsWith value (some (.Attribute o f pos')) pos.line X.env = pure false := by rfl) (hK : X.K = K := by rfl) :
    PSp' X H0 (.Assign [.Attribute o f pos'] value pos) (tFldS K to tv f) := by
  subst hK
  exact psW (ps_fld ho hv hs) fun D σ H ⟨σp, M, Dp, t, s, m, u, k⟩ => ⟨σp, M, _, t, s, m, u, fun v H1 pv M1 t1 m1 rv u1 => ⟨σp, M1, _, t.trans t1, s.mono t1, m1, u1, fun x H2 px M2 t2 m2 rx u2 => by
    cases rx with
    | ref a =>
      obtain ⟨C, dx, fs, fs', e1, ok, hl, rfl, q⟩ := u2
      obtain ⟨vs, e2, r⟩ := m2 a _ e1
      have r2 : RepXD X.K H2 (putX f pv fs) (putF f v vs) := r.put (rv.mono t2)
      obtain ⟨tk, rm⟩ := Tk_ins m2 e2 r2
      exact ⟨a, C, dx, vs, rfl, e2, ok.1, ok.2, by rw [← r.len]; exact hl, k.nx _ _ _ _ ((t1.trans t2).trans tk) (s.mono ((t1.trans t2).trans tk)) rm q⟩
    | _ => exact u2.elim⟩⟩
/-! ### methods -/
structure CalleeM (P : Program) (w : World) (K : Kf) (mg : Str → Option Value) (base : Heap) (k : Nat) (C : Addr) (m : Str) (ps : List Str) (psp : PSpec) : Prop where
  ex : ∃ f fd, FnOk P w K mg base CX0 k f fd ps (concF K psp) ∧ Cls K C ∧ Meth K C m f ∧ Binds K fd ps []
@[reducible] def tMethP (C : Addr) (m : Str) (psp : PSpec) (to : TEp) (ta : TAp) : TEp := fun σ M Q => to σ M fun x M1 => match x with
  | .ref a => (∃ dx fs, M1 a = some (.ins C dx fs) ∧ fs.lookup m = none) ∧ ta σ M1 fun ps M2 => psp (.ref a :: ps) M2 Q fun _ _ _ => False
  | _ => False
theorem meth_conc {C : Addr} {m : Str} {psp : PSpec} {to : TEp} {ta : TAp} {σ : L2.St} {H : Hp} {Q : VK} (h : concE K H0 (tMethP C m psp to ta) σ H Q) : tMeth C m (concF K psp) [] E0 (concE K H0 to) (concA K H0 ta) σ H Q := by
  obtain ⟨σp, M, Qp, t, s, m, u, k⟩ := h
  refine ⟨σp, M, _, t, s, m, u, fun x H1 px M1 t1 m1 rx u1 => ?_⟩
  cases rx with
  | ref a =>
    obtain ⟨⟨dx, fs, e1, l⟩, u1⟩ := u1
    obtain ⟨vs, e2, r⟩ := m1 a _ e1
    rename_i m'
    have hl : vs.lookup m' = none := by
      rcases r.lk m' with ⟨_, h⟩ | ⟨p, w, h1, _⟩
      · exact h
      · rw [l] at h1; cases h1
    refine ⟨a, dx, vs, rfl, e2, hl, σp, M1, _, t.trans t1, s.mono t1, m1, u1, fun ws H2 ps M2 t2 m2 rs u2 => ?_⟩
    show concF K psp (V.ref a :: (ws ++ [])) H2 Q E0
    rw [List.append_nil]
    exact ⟨.ref a :: ps, M2, Qp, _, .cons (.ref a) rs, m2, u2, fun v H3 p M3 t3 => k v H3 p M3 ((t1.trans t2).trans t3), fun _ _ _ _ _ _ z => z⟩
  | _ => exact u1.elim
theorem pmeth {k : Nat} {C : Addr} {m : Str} {ps : List Str} {psp : PSpec} {o e : Expr} {es : List Expr} {to : TEp} {ta : TAp} {apos : Pos} {pl : Sem Bool} (Cm : CalleeM X.prog X.w X.K X.mg X.base k C m ps psp) (hr : Room k X.A) (ho : PEp X H0 o to) (ha : PAp X H0 (e :: es) ta)
    (hst : starEach (e :: es) X.env = (false, eval e X.env) :: starEach es X.env := by rfl) (hpl : (backTo pos (starEach es X.env)).any (·.1) = false := by rfl)
    (ht : eval (.Call (.Attribute o m apos) (e :: es) [] pos) X.env = (do
      let ov ← eval o X.env
      standAt apos.atName
      let (f, first) ← holding [ov] (getMethod ov m pl)
      callWith pos f first (backTo pos (starEach (e :: es) X.env)) (backToKw pos (keywordEach [] X.env))) := by rfl) : PEp X H0 (.Call (.Attribute o m apos) (e :: es) [] pos) (tMethP C m psp to ta) := by
  obtain ⟨f, fd, F, c, hm, hb⟩ := Cm.ex
  exact peW (pe_meth ho c hm F hr hb .nil pass0 ha hst hpl ht) fun σ H Q h => meth_conc h
theorem pmeth0 {k : Nat} {C : Addr} {m : Str} {ps : List Str} {psp : PSpec} {o : Expr} {to : TEp} {apos : Pos} {pl : Sem Bool} (Cm : CalleeM X.prog X.w X.K X.mg X.base k C m ps psp) (hr : Room k X.A) (ho : PEp X H0 o to)
    (ht : eval (.Call (.Attribute o m apos) [] [] pos) X.env = (do
      let ov ← eval o X.env
      standAt apos.atName
      let (f, first) ← holding [ov] (getMethod ov m pl)
      callWith pos f first (backTo pos (starEach [] X.env)) (backToKw pos (keywordEach [] X.env))) := by rfl) : PEp X H0 (.Call (.Attribute o m apos) [] [] pos) (tMethP C m psp to tNil) := by
  obtain ⟨f, fd, F, c, hm, hb⟩ := Cm.ex
  refine peW (pe_meth0 ho c hm F hr hb .nil pass0 ht) fun σ H Q ⟨σp, M, Qp, t, s, m, u, k⟩ => ?_
  refine ⟨σp, M, _, t, s, m, u, fun x H1 px M1 t1 m1 rx u1 => ?_⟩
  cases rx with
  | ref a =>
    obtain ⟨⟨dx, fs, e1, l⟩, u1⟩ := u1
    obtain ⟨vs, e2, r⟩ := m1 a _ e1
    rename_i m' _
    have hl : vs.lookup m' = none := by
      rcases r.lk m' with ⟨_, h⟩ | ⟨p, w, h1, _⟩
      · exact h
      · rw [l] at h1; cases h1
    exact ⟨a, dx, vs, rfl, e2, hl, [.ref a], M1, Qp, _, .cons (.ref a) .nil, m1, u1, fun v H3 p M3 t3 => k v H3 p M3 (t1.trans t3), fun _ _ _ _ _ _ z => z⟩
  | _ => exact u1.elim
/-! ### properties -/
structure CalleeP (P : Program) (w : World) (K : Kf) (mg : Str → Option Value) (base : Heap) (k : Nat) (C : Addr) (m : Str) (ps : List Str) (psp : PSpec) : Prop where
  ex : ∃ p f fd, FnOk P w K mg base CX0 k f fd ps (concF K psp) ∧ Cls K C ∧ PropOf K C m p f ∧ Binds K fd ps []
@[reducible] def tPropP (C : Addr) (psp : PSpec) (to : TEp) : TEp := fun σ M Q => to σ M fun x M1 => match x with
  | .ref a => (∃ dx fs, M1 a = some (.ins C dx fs)) ∧ psp [.ref a] M1 Q fun _ _ _ => False
  | _ => False
theorem pprop {k : Nat} {C : Addr} {f : Str} {ps : List Str} {psp : PSpec} {e : Expr} {te : TEp} (Cm : CalleeP X.prog X.w X.K X.mg X.base k C f ps psp) (hr : Room (k + 1) X.A) (he : PEp X H0 e te)
    (hab : attributeBase e f X.env (eval e X.env) = eval e X.env := by rfl) : PEp X H0 (.Attribute e f pos) (tPropP C psp te) := by
  obtain ⟨p, g, fd, F, c, hp, hb⟩ := Cm.ex
  refine peW (pe_prop (E := E0) he c hp F hr hb .nil (fun _ _ _ _ _ _ _ h => h.elim) hab) fun σ H Q ⟨σp, M, Qp, t, s, m, u, k⟩ => ?_
  refine ⟨σp, M, _, t, s, m, u, fun x H1 px M1 t1 m1 rx u1 => ?_⟩
  cases rx with
  | ref a =>
    obtain ⟨⟨dx, fs, e1⟩, u1⟩ := u1
    obtain ⟨vs, e2, r⟩ := m1 a _ e1
    exact ⟨a, dx, vs, rfl, e2, [.ref a], M1, Qp, _, .cons (.ref a) .nil, m1, u1, fun v H3 p M3 t3 => k v H3 p M3 (t1.trans t3), fun _ _ _ _ _ _ z => z⟩
  | _ => exact u1.elim
/-! ### making -/
structure CalleeK (P : Program) (w : World) (K : Kf) (mg : Str → Option Value) (base : Heap) (k : Nat) (x : Str) (ps : List Str) (psp : PSpec) : Prop where
  ex : ∃ f fd, FnOk P w K mg base CX0 k f fd ps (concF K psp) ∧ mg x = some (.ref (clsA K x)) ∧ Mk K (clsA K x) f ∧ Binds K fd ps []
@[reducible] def tMakeP (C : Addr) (psp : PSpec) (ta : TAp) : TEp := fun σ M Q => ta σ M fun ps M1 => ∀ a dx, M1 a = none → psp (.ref a :: ps) (updM M1 a (.ins C dx [])) (fun v M2 => v = .non ∧ Q (.ref a) M2) fun _ _ _ => False
theorem make_conc {C : Addr} {psp : PSpec} {ta : TAp} {σ : L2.St} {H : Hp} {Q : VK} (h : concE K H0 (tMakeP C psp ta) σ H Q) : tMake C (concF K psp) [] E0 (concA K H0 ta) σ H Q := by
  obtain ⟨σp, M, Qp, t, s, m, u, k⟩ := h
  refine ⟨σp, M, _, t, s, m, u, fun vs H1 ps M1 t1 m1 rs u1 => ?_⟩
  intro a dx ha hdx ne
  show concF K psp (V.ref a :: (vs ++ [])) _ _ E0
  rw [List.append_nil]
  have tk1 : Tk K H1 (upd H1 dx (.own a)) := .new hdx
  have hn : (upd H1 dx (.own a)) a = none := by rw [upd_ne (Ne.symm ne)]; exact ha
  have tk2 : Tk K (upd H1 dx (.own a)) (upd (upd H1 dx (.own a)) a (.ins C dx [])) := .new hn
  have m2 : RelM K (upd H1 dx (.own a)) M1 := m1.new hdx
  refine ⟨.ref a :: ps, updM M1 a (.ins C dx []), _, _, .cons (.ref a) (rs.mono (tk1.trans tk2)), m2.put tk2 ⟨[], upd_same, .nil⟩, u1 a dx (m1.fresh ha), fun v H3 p M3 t3 m3 r3 q => ?_, fun _ _ _ _ _ _ z => z⟩
  obtain ⟨q1, q2⟩ := q
  subst q1
  cases r3
  exact ⟨rfl, k _ H3 _ M3 ((t1.trans (tk1.trans tk2)).trans t3) m3 (.ref a) q2⟩
theorem pmake {k : Nat} {x : Str} {ps : List Str} {psp : PSpec} {p : Pos} {e : Expr} {es : List Expr} {ta : TAp} (Cm : CalleeK X.prog X.w X.K X.mg X.base k x ps psp) (hr : Room (k + 1) X.A) (ha : PAp X H0 (e :: es) ta) (hg : Gl X x := by rfl) (hd : (x == ("__debug__" : Str)) = false := by decide)
    (he : starEach (e :: es) X.env = (false, eval e X.env) :: starEach es X.env := by rfl) (hpl : (backTo pos (starEach es X.env)).any (·.1) = false := by rfl) (hK : X.K = K := by rfl) : PEp X H0 (.Call (.Name x p) (e :: es) [] pos) (tMakeP (clsA K x) psp ta) := by
  subst hK
  obtain ⟨f, fd, F, hm, mk, hb⟩ := Cm.ex
  exact peW (pe_make mk F hr hg hm hb .nil pass0 ha hd he hpl) fun σ H Q h => make_conc h
/-! ### instances called -/
structure CalleeO (P : Program) (w : World) (K : Kf) (mg : Str → Option Value) (base : Heap) (k : Nat) (C : Addr) (ps : List Str) (psp : PSpec) : Prop where
  ex : ∃ f fd, FnOk P w K mg base CX0 k f fd ps (concF K psp) ∧ StX.CallO K C f ∧ Binds K fd ps []
@[reducible] def tCallOP (C : Addr) (psp : PSpec) (to : TEp) (ta : TAp) : TEp := fun σ M Q => to σ M fun x M1 => match x with
  | .ref a => ta σ M1 fun ps M2 => (∃ dx fs, M2 a = some (.ins C dx fs)) ∧ psp (.ref a :: ps) M2 Q fun _ _ _ => False
  | _ => False
theorem pcallo {k : Nat} {C : Addr} {ps : List Str} {psp : PSpec} {fe e : Expr} {es : List Expr} {tf : TEp} {ta : TAp} (Cm : CalleeO X.prog X.w X.K X.mg X.base k C ps psp) (hr : Room k X.A) (hf : PEp X H0 fe tf) (ha : PAp X H0 (e :: es) ta)
    (ht : eval (.Call fe (e :: es) [] pos) X.env = (do callWith pos (← eval fe X.env) [] (backTo pos (starEach (e :: es) X.env)) (backToKw pos (keywordEach [] X.env))) := by rfl)
    (he : starEach (e :: es) X.env = (false, eval e X.env) :: starEach es X.env := by rfl) (hpl : (backTo pos (starEach es X.env)).any (·.1) = false := by rfl) : PEp X H0 (.Call fe (e :: es) [] pos) (tCallOP C psp tf ta) := by
  obtain ⟨f, fd, F, c, hb⟩ := Cm.ex
  refine peW (StX.pe_callO hf c (F.raw hb .nil) hr pass0 ha ht he hpl) fun σ H Q ⟨σp, M, Qp, t, s, m, u, k⟩ => ?_
  refine ⟨σp, M, _, t, s, m, u, fun x H1 px M1 t1 m1 rx u1 => ?_⟩
  cases rx with
  | ref a =>
    refine ⟨a, rfl, σp, M1, _, t.trans t1, s.mono t1, m1, u1, fun ws H2 ps M2 t2 m2 rs u2 => ?_⟩
    obtain ⟨⟨dx, fs, e1⟩, u2⟩ := u2
    obtain ⟨vs, e2, r⟩ := m2 a _ e1
    refine ⟨.inr ⟨dx, vs, e2⟩, ?_⟩
    show concF X.K psp ((V.ref a :: ws) ++ []) H2 Q E0
    rw [List.append_nil]
    exact ⟨.ref a :: ps, M2, Qp, _, .cons (.ref a) rs, m2, u2, fun v H3 p M3 t3 => k v H3 p M3 ((t1.trans t2).trans t3), fun _ _ _ _ _ _ z => z⟩
  | _ => exact u1.elim
/-- a method's own proof -/
theorem meth_of {P : Program} {w : World} {mg : Str → Option Value} {base : Heap} {k : Nat} {x q : Str} {st : Stmt} {N ps : List Str} {psp : PSpec} {f : Addr} {fd : FuncData} (F : Fun K x q st f fd) (S : FnScope N ps (defScope st)) (len : ∀ vs M Q E, psp vs M Q E → vs.length = ps.length)
    (body : ∀ f cdv A outer s H E, Room k (defCx P w K mg base N q st f cdv A outer s H E).A → ∃ t, PSsp (defCx P w K mg base N q st f cdv A outer s H E) H (defBody st) t ∧ ∀ vs M Q Ep, psp vs M Q Ep → t (ends Q) (startP N vs) M) :
    FnOk P w K mg base CX0 (k + 1) f fd ps (concF K psp) := by
  refine F.ok S (fun vs H Q E h => ?_) (fun cdv A outer s H vs Q E hr h => ?_)
  · obtain ⟨qs, M, Qp, Ep, r, m, u, _⟩ := h
    rw [← r.length]
    exact len _ _ _ _ u
  · obtain ⟨qs, M, Qp, Ep, r, m, u, k1, k2⟩ := h
    obtain ⟨t, d, b⟩ := body f cdv A outer s H E hr
    refine ⟨_, d, startP N qs, M, ends Qp, Tk.refl _ _, startP_rel r N, m, b _ _ _ _ u, ⟨fun σ' H' σp' M' t1 s1 m1 q => ?_, fun v H' p M' t1 m1 r1 q => ?_, fun _ _ _ _ _ _ _ z => z.elim, fun _ _ _ _ _ _ _ z => z.elim⟩⟩
    · obtain ⟨M0, sb, q⟩ := q
      exact k1 _ _ _ _ t1 (m1.sub sb) .non q
    · obtain ⟨M0, sb, q⟩ := q
      exact k1 _ _ _ _ t1 (m1.sub sb) r1 q
end
end PL

set_option Elab.async false
set_option linter.all false
set_option maxRecDepth 100000
set_option maxHeartbeats 4000000
/-! PL18: k in d. -/
namespace PL
open PySem PySem.Spec L2
section
variable {X : Cx} {H0 : Hp} {pos : Pos} {K : Kf} {i o : Expr} {ti td : TEp}
@[reducible] def tDInP (neg : Bool) (ti td : TEp) : TEp := fun σ M Q => ti σ M fun y M1 => td σ M1 fun x M2 => match x with | .ref a => ∃ kvs k, rdD M2 a kvs ∧ y = kP k ∧ Q (.bl (if neg then !(valP kvs k).isSome else (valP kvs k).isSome)) M2 | _ => False
theorem din_conc {neg : Bool} {σ : L2.St} {H : Hp} {Q : VK} (h : concE K H0 (tDInP neg ti td) σ H Q) : concE K H0 ti σ H fun y H1 => concE K H0 td σ H1 fun x H2 => ∃ a ov, x = .ref a ∧ DGet H2 a y ov ∧ Q (.bl (if neg then !ov.isSome else ov.isSome)) H2 := by
  obtain ⟨σp, M, Qp, t, s, m, u, k⟩ := h
  refine ⟨σp, M, _, t, s, m, u, fun y H1 py M1 t1 m1 ry u1 => ⟨σp, M1, _, t.trans t1, s.mono t1, m1, u1, fun x H2 px M2 t2 m2 rx u2 => ?_⟩⟩
  cases rx with
  | ref a =>
    obtain ⟨kvs, kk, hd, rfl, q⟩ := u2
    obtain ⟨vs, e1, r⟩ := hd.to m2
    refine ⟨a, valV vs kk, rfl, .inl ⟨vs, kk, e1, kP_inv (ry.mono t2), rfl⟩, ?_⟩
    rcases r.val kk with ⟨n1, n2⟩ | ⟨p', v, n1, n2, rv⟩
    · rw [n1] at q; rw [n2]
      exact k _ _ _ _ (t1.trans t2) m2 (.bl _) q
    · rw [n1] at q; rw [n2]
      exact k _ _ _ _ (t1.trans t2) m2 (.bl _) q
  | _ => exact u2.elim
theorem pdin (hu : X.A.units + 1 < cLine) (hi : PEp X H0 i ti) (ho : PEp X H0 o td) (h1 : behindInMarks .In o = false := by rfl) : PEp X H0 (.Compare i [.In] [o] pos) (tDInP false ti td) :=
  peW (pe_cmp (pc_din hu hi ho) h1) fun σ H Q h => by exact din_conc h
theorem pdnotin (hu : X.A.units + 1 < cLine) (hi : PEp X H0 i ti) (ho : PEp X H0 o td) (h1 : behindInMarks .NotIn o = false := by rfl) : PEp X H0 (.Compare i [.NotIn] [o] pos) (tDInP true ti td) :=
  peW (pe_cmp (pc_dnotin hu hi ho) h1) fun σ H Q h => by exact din_conc h
theorem ptdin (hu : X.A.units + 1 < cLine) (hi : PEp X H0 i ti) (ho : PEp X H0 o td) (h1 : behindInMarks .In o = false := by rfl) : PTp X H0 (.Compare i [.In] [o] pos) (tB (tDInP false ti td)) :=
  ptW (pt_cmp (pc_din hu hi ho) h1) fun σ H Q h => by
    have h2 := tB_conc h
    exact din_conc h2
theorem ptdnotin (hu : X.A.units + 1 < cLine) (hi : PEp X H0 i ti) (ho : PEp X H0 o td) (h1 : behindInMarks .NotIn o = false := by rfl) : PTp X H0 (.Compare i [.NotIn] [o] pos) (tB (tDInP true ti td)) :=
  ptW (pt_cmp (pc_dnotin hu hi ho) h1) fun σ H Q h => by
    have h2 := tB_conc h
    exact din_conc h2
end
end PL

set_option Elab.async false
set_option linter.all false
set_option maxRecDepth 100000
set_option maxHeartbeats 2000000
/-! PL19: zip, enumerate in a loop. -/
namespace PL
open PySem PySem.Spec L2 PyProof.Rows
section
variable {K : Kf} {X : Cx} {H0 : Hp} {pos : Pos}
/-- a walk whose items are new pairs, laid with their object known -/
def pairIt (J : It) (is : Nat → Hp → V → V → Prop) : It :=
  ⟨J.go, fun i H v H' => ∃ (T : Addr) (ob : Obj) (x y : V), v = .ref T ∧ H T = none ∧ ob.dict = none ∧ H' = upd H T (.frz ob (.tup [x, y])) ∧ is i H x y, J.stop⟩
abbrev zipL (K : Kf) (a b : Addr) : It := pairIt (Itz K a b) fun i H x y => (∀ xs, SqL K H a xs → xs[i]? = some x) ∧ ∀ ys, SqL K H b ys → ys[i]? = some y
abbrev zipT (K : Kf) (a b : Addr) : It := pairIt (RZ.ItzT K a b) fun i H x y => (∀ xs, SqT K H a xs → xs[i]? = some x) ∧ ∀ ys, SqT K H b ys → ys[i]? = some y
theorem five_fp {pins : List (Addr × Obj)} {σ : L2.St} {H : Hp} {s : Shared} (I : Inv X pins σ H s) : ∀ c, c ∈ [s.heap.objs.size + 4, s.heap.objs.size + 2, s.heap.objs.size + 3, s.heap.objs.size, s.heap.objs.size + 1] → FpOk X pins H c := fun c hc => by
  have hle : s.heap.objs.size ≤ c := by
    simp only [List.mem_cons, List.not_mem_nil, or_false] at hc
    omega
  exact I.fpOk hle (I.hok.fresh hle)
theorem pair_ok {H : Hp} {h : Heap} {n : Addr} {x y : V} {u v : Value} {P : Program} {w : World} (e : h.get? n = some { cls := .type "tuple", data := .seq #[u, v] }) (rx : RelV x u) (ry : RelV y v) :
    ObjOk P w (upd H n (.frz { cls := .type "tuple", data := .seq #[u, v] } (.tup [x, y]))) h n (.frz { cls := .type "tuple", data := .seq #[u, v] } (.tup [x, y])) :=
  ⟨e, by show 2 ≤ sizeLine; decide, [u, v], .cons rx (.cons ry .nil), ⟨_, e, rfl, _, rfl⟩⟩
theorem fp_pair {pins : List (Addr × Obj)} {H : Hp} {cs : List Addr} {n : Nat} {o : HO} (hf : ∀ c ∈ cs, FpOk X pins H c) (hl : ∀ c ∈ cs, c < n) : ∀ c ∈ cs, (upd H n o) c = none := fun c hc => by
  rw [upd_ne (Nat.ne_of_lt (hl c hc))]
  exact (hf c hc).1
theorem turn_zl {P : Program} {w : World} {elts : List Expr} {kk : Nat} {tpos : Pos} {a b z TI TO i1 i2 : Addr} (D : ZipApart z TI TO i1 i2 a b) :
    Turn P w K (.Tuple elts kk tpos) (zipL K a b) [z, TI, TO, i1, i2] z (fun i h => IsZip h z TI TO .none ∧ IsPair h TI (.ref i1) (.ref i2) ∧ (∃ x y, IsPair h TO x y) ∧ h.IsListIter i1 a i ∧ h.IsListIter i2 b i) :=
  have T0 := turn_zip (P := P) (w := w) (K := K) (elts := elts) (kk := kk) (tpos := tpos) D
  { mem := T0.mem, obj := T0.obj, keep := T0.keep, done := T0.done, self := T0.self
    item := by
      intro X hP hw hK hc i pins s σ H E I hf st hg
      subst hP hw hK
      obtain ⟨hz, hTI, ⟨x0, y0, hTO⟩, h1, h2⟩ := st
      obtain ⟨xs, ys, x, y, hx, hy, gx, gy⟩ := hg
      obtain ⟨us, ru, lu, _⟩ := I.list hx
      obtain ⟨vs, rv, lv, _⟩ := I.list hy
      obtain ⟨u, hu, ru⟩ := ru.get gx
      obtain ⟨v, hv, rv⟩ := rv.get gy
      have zl : z < s.heap.objs.size := Heap.lt_size hz
      refine wpAny_pyNext_zip_item D hz hTI hTO h1 h2 lu.isList lv.isList (x := u) (y := v) (by simpa using hu) (by simpa using hv) fun h' z1 O1 j1 j2 hT _ kp => ?_
      refine ⟨_, rfl, wpAny_letOwnedTupleGo_zip (s := { s with heap := h' }) z1 fun h2' z2 sb => ?_⟩
      have there : h2'.get? s.heap.objs.size = some { cls := .type "tuple", data := .seq #[u, v] } := (sb.2 _ (Nat.ne_of_gt zl)).trans hT
      refine ⟨.ref s.heap.objs.size, _, I.turnedNew (t' := s.toks) (ch := [z, TI, TO, i1, i2]) (fun c o nc q => (sb.2 c fun q' => nc (by simp [q'])).trans (kp c o (fun q' => nc (by simp [q'])) (fun q' => nc (by simp [q'])) (fun q' => nc (by simp [q'])) (fun q' => nc (by simp [q'])) q)) hf (Nat.le_refl _) (pair_ok there ru rv), rfl,
        ⟨_, _, x, y, rfl, I.hok.fresh (Nat.le_refl _), rfl, rfl, fun l hl => by rw [I.list_inj hl hx]; exact gx, fun l hl => by rw [I.list_inj hl hy]; exact gy⟩,
        ⟨z2, (sb.2 _ D.TIz).trans (kp _ _ D.TIz D.TITO D.TIi1 D.TIi2 hTI), ⟨u, v, (sb.2 _ D.TOz).trans O1⟩, j1.at fun o q => (sb.2 _ D.i1z).trans q, j2.at fun o q => (sb.2 _ D.i2z).trans q⟩, fp_pair hf fun c hc => ?_⟩
      simp only [List.mem_cons, List.not_mem_nil, or_false] at hc
      rcases hc with rfl | rfl | rfl | rfl | rfl
      · exact zl
      · exact Heap.lt_size hTI
      · exact Heap.lt_size hTO
      · obtain ⟨_, e1, _⟩ := h1; exact Heap.lt_size e1
      · obtain ⟨_, e2, _⟩ := h2; exact Heap.lt_size e2 }
theorem turn_zt {P : Program} {w : World} {elts : List Expr} {kk : Nat} {tpos : Pos} {a b z TI TO i1 i2 : Addr} (D : ZipApart z TI TO i1 i2 a b) :
    Turn P w K (.Tuple elts kk tpos) (zipT K a b) [z, TI, TO, i1, i2] z (fun i h => IsZip h z TI TO .none ∧ IsPair h TI (.ref i1) (.ref i2) ∧ (∃ x y, IsPair h TO x y) ∧ h.IsTupleIter i1 a i ∧ h.IsTupleIter i2 b i) :=
  have T0 := RZ.turn_zipT (P := P) (w := w) (K := K) (elts := elts) (kk := kk) (tpos := tpos) D
  { mem := T0.mem, obj := T0.obj, keep := T0.keep, done := T0.done, self := T0.self
    item := by
      intro X hP hw hK hc i pins s σ H E I hf st hg
      subst hP hw hK
      obtain ⟨hz, hTI, ⟨x0, y0, hTO⟩, h1, h2⟩ := st
      obtain ⟨xs, ys, x, y, hx, hy, gx, gy⟩ := hg
      obtain ⟨us, ru, lu, _⟩ := I.tuple hx
      obtain ⟨vs, rv, lv, _⟩ := I.tuple hy
      obtain ⟨u, hu, ru⟩ := ru.get gx
      obtain ⟨v, hv, rv⟩ := rv.get gy
      have zl : z < s.heap.objs.size := Heap.lt_size hz
      refine RZ.pyNext_zipT_item D hz hTI hTO h1 h2 lu lv (x := u) (y := v) (by simpa using hu) (by simpa using hv) fun h' z1 O1 j1 j2 hT _ kp => ?_
      refine ⟨_, rfl, wpAny_letOwnedTupleGo_zip (s := { s with heap := h' }) z1 fun h2' z2 sb => ?_⟩
      have there : h2'.get? s.heap.objs.size = some { cls := .type "tuple", data := .seq #[u, v] } := (sb.2 _ (Nat.ne_of_gt zl)).trans hT
      refine ⟨.ref s.heap.objs.size, _, I.turnedNew (t' := s.toks) (ch := [z, TI, TO, i1, i2]) (fun c o nc q => (sb.2 c fun q' => nc (by simp [q'])).trans (kp c o (fun q' => nc (by simp [q'])) (fun q' => nc (by simp [q'])) (fun q' => nc (by simp [q'])) (fun q' => nc (by simp [q'])) q)) hf (Nat.le_refl _) (pair_ok there ru rv), rfl,
        ⟨_, _, x, y, rfl, I.hok.fresh (Nat.le_refl _), rfl, rfl, fun l hl => by rw [I.tuple_inj hl hx]; exact gx, fun l hl => by rw [I.tuple_inj hl hy]; exact gy⟩,
        ⟨z2, (sb.2 _ D.TIz).trans (kp _ _ D.TIz D.TITO D.TIi1 D.TIi2 hTI), ⟨u, v, (sb.2 _ D.TOz).trans O1⟩, j1.at fun o q => (sb.2 _ D.i1z).trans q, j2.at fun o q => (sb.2 _ D.i2z).trans q⟩, fp_pair hf fun c hc => ?_⟩
      simp only [List.mem_cons, List.not_mem_nil, or_false] at hc
      rcases hc with rfl | rfl | rfl | rfl | rfl
      · exact zl
      · exact Heap.lt_size hTI
      · exact Heap.lt_size hTO
      · obtain ⟨_, e1, _⟩ := h1; exact Heap.lt_size e1
      · obtain ⟨_, e2, _⟩ := h2; exact Heap.lt_size e2 }
def iZipX (K : PySem.W.Frag) (ta : TA) : TI := fun σ H R => ta σ H fun vs H1 => ∃ a b xs ys, vs = [.ref a, .ref b] ∧ ((SqL K H1 a xs ∧ SqL K H1 b ys ∧ R (zipL K a b) H1) ∨ (SqT K H1 a xs ∧ SqT K H1 b ys ∧ R (zipT K a b) H1))
theorem pi_zipX {e e2 : Expr} {ta : TA} {p tpos : Pos} {elts : List Expr} {kk : Nat} (hg : Gl X "zip") (hm : X.mg "zip" = none) (ha : PA X [e, e2] ta)
    (hs : starEach [e, e2] X.env = (false, eval e X.env) :: starEach [e2] X.env := by rfl) (hpl : (backTo pos (starEach [e2] X.env)).any (·.1) = false := by rfl) :
    PI X (.Tuple elts kk tpos) (.Call (.Name "zip" p) [e, e2] [] pos) (iZipX X.K ta) := by
  refine ⟨fun pins s σ H R I q => ?_⟩
  refine Call_ (ld_blt I hg hm PyProof.Rows.boot_zip (PyProof.Rows.callWith_type1 (thn (ha.run pos pins s σ H _ I q) fun us s1 ⟨vs, H1, I1, r1, a, b, xs, ys, ex, q1⟩ => ?_) hs hpl))
  subst ex
  obtain ⟨r, rs, rfl, rr, rrs⟩ : ∃ r rs, us = r :: rs ∧ RelV (.ref a) r ∧ Vals [.ref b] rs := by cases r1 with | cons q1 q2 => exact ⟨_, _, rfl, q1, q2⟩
  obtain ⟨r', rfl, rr'⟩ := vals1 rrs
  cases rr
  cases rr'
  have five := five_fp I1
  rcases q1 with ⟨hx, hy, q1⟩ | ⟨hx, hy, q1⟩
  · obtain ⟨_, _, p1, _⟩ := I1.list hx
    obtain ⟨_, _, p2, _⟩ := I1.list hy
    refine call_zip_2 p1.isList p2.isList fun h' hz hTI hTO h1 h2 _ kp => wpAny_pyIter_zip hz ?_
    exact ⟨_, _, _, _, H1, rfl, I1.kept (t' := s1.toks) kp, turn_zl (PySem.W.ktu_apart s1.heap.objs.size a b p1.lt p2.lt), ⟨hz, hTI, ⟨_, _, hTO⟩, h1, h2⟩, five, q1⟩
  · obtain ⟨_, _, p1, _⟩ := I1.tuple hx
    obtain ⟨_, _, p2, _⟩ := I1.tuple hy
    obtain ⟨_, g1, _⟩ := id p1
    obtain ⟨_, g2, _⟩ := id p2
    refine RZ.call_zipT p1 p2 fun h' hz hTI hTO h1 h2 _ kp => wpAny_pyIter_zip hz ?_
    exact ⟨_, _, _, _, H1, rfl, I1.kept (t' := s1.toks) kp, turn_zt (PySem.W.ktu_apart s1.heap.objs.size a b (Heap.lt_size g1) (Heap.lt_size g2)), ⟨hz, hTI, ⟨_, _, hTO⟩, h1, h2⟩, five, q1⟩
def zipP (l l' : List PV) : List PV := List.zipWith (fun x y => PV.tup [x, y]) l l'
theorem zipP_get {l l' : List PV} {i : Nat} {p : PV} (h : (zipP l l')[i]? = some p) : ∃ x y, l[i]? = some x ∧ l'[i]? = some y ∧ p = .tup [x, y] := by
  unfold zipP at h
  rw [List.getElem?_zipWith] at h
  cases h1 : l[i]? with
  | none => rw [h1] at h; cases h
  | some x =>
    cases h2 : l'[i]? with
    | none => rw [h1, h2] at h; cases h
    | some y => rw [h1, h2] at h; exact ⟨x, y, rfl, rfl, (Option.some.inj h).symm⟩
theorem zipP_of {l l' : List PV} {i : Nat} {x y : PV} (h1 : l[i]? = some x) (h2 : l'[i]? = some y) : (zipP l l')[i]? = some (.tup [x, y]) := by unfold zipP; rw [List.getElem?_zipWith, h1, h2]
theorem zipP_len {l l' : List PV} : (zipP l l').length = min l.length l'.length := by unfold zipP; exact List.length_zipWith
theorem pair_rep {H : Hp} {T : Addr} {ob : Obj} {x y : V} {px py : PV} (hT : H T = none) (hd : ob.dict = none) (rx : Rep K H px x) (ry : Rep K H py y) : Rep K (upd H T (.frz ob (.tup [x, y]))) (.tup [px, py]) (.ref T) ∧ Tk K H (upd H T (.frz ob (.tup [x, y]))) ∧ ∀ M, RelM K H M → RelM K (upd H T (.frz ob (.tup [x, y]))) M := by
  have t : Tk K H (upd H T (.frz ob (.tup [x, y]))) := .new hT
  exact ⟨.tup (.inl ⟨ob, upd_same, hd⟩) (Reps.mono t (.cons rx (.cons ry .nil))), t, fun M m => m.new hT⟩
theorem itr_zl {H1 : Hp} {a b : Addr} {l l' : List PV} : ItR K H1 (zipL K a b) (zipP l l') (fun M => rdL K M a l ∧ rdL K M b l') where
  go := fun i H M t m k hi => by
    obtain ⟨vs, e, r⟩ := k.1.to m
    obtain ⟨ws, e2, r2⟩ := k.2.to m
    rw [zipP_len] at hi
    have h1 : i < vs.length := by rw [← r.length]; omega
    have h2 : i < ws.length := by rw [← r2.length]; omega
    exact ⟨vs, ws, vs[i], ws[i], e, e2, by simp [h1], by simp [h2]⟩
  yld := fun i H M x H' t m k hi y => by
    obtain ⟨T, ob, u, v, rfl, hT, hd, rfl, g1, g2⟩ := y
    obtain ⟨vs, e, r⟩ := k.1.to m
    obtain ⟨ws, e2, r2⟩ := k.2.to m
    rw [zipP_len] at hi
    obtain ⟨v1, q1, p1⟩ := r.get (List.getElem?_eq_getElem (show i < l.length by omega))
    obtain ⟨v2, q2, p2⟩ := r2.get (List.getElem?_eq_getElem (show i < l'.length by omega))
    have q3 := g1 vs e
    have q4 := g2 ws e2
    rw [q1] at q3; cases q3
    rw [q2] at q4; cases q4
    exact ⟨_, zipP_of (List.getElem?_eq_getElem (by omega)) (List.getElem?_eq_getElem (by omega)), pair_rep hT hd p1 p2⟩
  stop := fun H M t m k => by
    obtain ⟨vs, e, r⟩ := k.1.to m
    obtain ⟨ws, e2, r2⟩ := k.2.to m
    refine ⟨vs, ws, e, e2, ?_⟩
    rw [zipP_len, r.length, r2.length]; omega
theorem itr_zt {H1 : Hp} {a b : Addr} {l l' : List PV} {vs ws : List V} (h : SqX K H1 a vs) (r : Reps K H1 l vs) (h2 : SqX K H1 b ws) (r2 : Reps K H1 l' ws) : ItR K H1 (zipT K a b) (zipP l l') (fun _ => True) where
  go := fun i H M t m k hi => by
    rw [zipP_len] at hi
    have h1 : i < vs.length := by rw [← r.length]; omega
    have h3 : i < ws.length := by rw [← r2.length]; omega
    exact ⟨vs, ws, vs[i], ws[i], (t _ _ h).t, (t _ _ h2).t, by simp [h1], by simp [h3]⟩
  yld := fun i H M x H' t m k hi y => by
    obtain ⟨T, ob, u, v, rfl, hT, hd, rfl, g1, g2⟩ := y
    rw [zipP_len] at hi
    obtain ⟨v1, q1, p1⟩ := (r.mono t).get (List.getElem?_eq_getElem (show i < l.length by omega))
    obtain ⟨v2, q2, p2⟩ := (r2.mono t).get (List.getElem?_eq_getElem (show i < l'.length by omega))
    have q3 := g1 vs (t _ _ h).t
    have q4 := g2 ws (t _ _ h2).t
    rw [q1] at q3; cases q3
    rw [q2] at q4; cases q4
    exact ⟨_, zipP_of (List.getElem?_eq_getElem (by omega)) (List.getElem?_eq_getElem (by omega)), pair_rep hT hd p1 p2⟩
  stop := fun H M t m k => by
    refine ⟨vs, ws, (t _ _ h).t, (t _ _ h2).t, ?_⟩
    rw [zipP_len, r.length, r2.length]; omega
@[reducible] def iZipP (K : Kf) (ta : TAp) : TIp := fun σ M R => ta σ M fun vs M1 => match vs with
  | [.tup l, .tup l'] => R (zipP l l') (fun _ => True) M1
  | [.ref a, .ref b] => ∃ l l', rdL K M1 a l ∧ rdL K M1 b l' ∧ R (zipP l l') (fun M => rdL K M a l ∧ rdL K M b l') M1
  | _ => False
theorem pizip {e e2 : Expr} {ta : TAp} {p tpos : Pos} {elts : List Expr} {kk : Nat} (hg : Gl X "zip") (hm : X.mg "zip" = none) (ha : PAp X H0 [e, e2] ta)
    (hs : starEach [e, e2] X.env = (false, eval e X.env) :: starEach [e2] X.env := by rfl) (hpl : (backTo pos (starEach [e2] X.env)).any (·.1) = false := by rfl) :
    PIp' X H0 (.Tuple elts kk tpos) (.Call (.Name "zip" p) [e, e2] [] pos) (iZipP X.K ta) :=
  piW (pi_zipX hg hm ha hs hpl) fun σ H R ⟨σp, M, Rp, t, s, m, u, k⟩ => ⟨σp, M, _, t, s, m, u, fun vs H1 ps M1 t1 m1 rs u1 => by
    cases rs with
    | nil => exact u1.elim
    | cons r rr => cases rr with
      | nil => cases r <;> exact u1.elim
      | cons r2 rr2 => cases rr2 with
        | cons _ _ => cases r <;> cases r2 <;> exact u1.elim
        | nil => cases r with
          | tup h q => cases r2 with
            | tup h2 q2 => exact ⟨_, _, _, _, rfl, .inr ⟨h.t, h2.t, k _ _ _ _ _ t1 m1 (itr_zt h q h2 q2) u1⟩⟩
            | _ => exact u1.elim
          | ref a => cases r2 with
            | ref b =>
              obtain ⟨l, l', h1, h2, u1⟩ := u1
              obtain ⟨vs, e, _⟩ := h1.to m1
              obtain ⟨ws, e2, _⟩ := h2.to m1
              exact ⟨a, b, _, _, rfl, .inl ⟨e, e2, k _ _ _ _ _ t1 m1 itr_zl u1⟩⟩
            | _ => exact u1.elim
          | _ => cases r2 <;> exact u1.elim⟩
end
end PL

set_option Elab.async false
set_option linter.all false
set_option maxRecDepth 100000
set_option maxHeartbeats 2000000
/-! PL20: x in l of exact data (no bools), tuples too. -/
namespace PL
open PySem PySem.Spec L2 PyProof.Rows
section
variable {K : Kf} {X : Cx} {H0 : Hp} {pos : Pos}
/-- data that == tells apart by what they are -/
inductive TxtD : Nat → PV → Prop
  | non {n} : TxtD (n + 1) .non
  | int {n} (i) : TxtD (n + 1) (.int i)
  | str {n} (x) : TxtD (n + 1) (.str x)
  | tup {n l} : l.length ≤ 16777216 → (∀ x ∈ l, TxtD n x) → TxtD (n + 1) (.tup l)
theorem TxtD.pure : ∀ {n : Nat} {x : PV}, TxtD n x → PureD n x
  | _, _, .non => .non
  | _, _, .int _ => .int _
  | _, _, .str _ => .str _
  | _ + 1, .tup _, .tup h1 h2 => .tup h1 fun x hx => (h2 x hx).pure
theorem PureD.plain : ∀ {n : Nat} {x : PV}, PureD n x → (toD x).plain = true
  | _, _, .non => rfl
  | _, _, .bl _ => rfl
  | _, _, .int _ => rfl
  | _, _, .str _ => rfl
  | n + 1, .tup l, .tup _ h => by
    have key : ∀ l : List PV, (∀ x ∈ l, PureD n x) → PyData.plainAll (toDs l) = true := by
      intro l
      induction l with
      | nil => intro _; rfl
      | cons x r ih =>
        intro h
        show ((toD x).plain && PyData.plainAll (toDs r)) = true
        rw [PureD.plain (h x List.mem_cons_self), ih fun y hy => h y (List.mem_cons_of_mem _ hy)]; rfl
    exact key l h
theorem plain_all {n : Nat} : ∀ {l : List PV}, (∀ x ∈ l, PureD n x) → PyData.plainAll (toDs l) = true
  | [], _ => rfl
  | x :: r, h => by
    show ((toD x).plain && PyData.plainAll (toDs r)) = true
    rw [PureD.plain (h x List.mem_cons_self), plain_all fun y hy => h y (List.mem_cons_of_mem _ hy)]; rfl
theorem dps_all {n : Nat} {M : PHp} : ∀ {l : List PV}, (∀ x ∈ l, PureD n x) → DpsP K M l (toDs l)
  | [], _ => .nil
  | x :: r, h => .cons (h x List.mem_cons_self).dp (dps_all fun y hy => h y (List.mem_cons_of_mem _ hy))
theorem TxtD.eqv : ∀ {n m : Nat} {x y : PV}, TxtD n x → TxtD m y → (PyData.eqv (toD x) (toD y) = true ↔ x = y)
  | _, _, _, _, .non, .non => by simp [toD, PyData.eqv]
  | _, _, _, _, .non, .int _ => by simp [toD, PyData.eqv]
  | _, _, _, _, .non, .str _ => by simp [toD, PyData.eqv]
  | _, _, _, _, .non, .tup _ _ => by simp [toD, PyData.eqv]
  | _, _, _, _, .int _, .non => by simp [toD, PyData.eqv]
  | _, _, _, _, .int i, .int j => by simp [toD, PyData.eqv]
  | _, _, _, _, .int _, .str _ => by simp [toD, PyData.eqv]
  | _, _, _, _, .int _, .tup _ _ => by simp [toD, PyData.eqv]
  | _, _, _, _, .str _, .non => by simp [toD, PyData.eqv]
  | _, _, _, _, .str _, .int _ => by simp [toD, PyData.eqv]
  | _, _, _, _, .str a, .str b => by simp [toD, PyData.eqv]
  | _, _, _, _, .str _, .tup _ _ => by simp [toD, PyData.eqv]
  | _, _, _, _, .tup _ _, .non => by simp [toD, PyData.eqv]
  | _, _, _, _, .tup _ _, .int _ => by simp [toD, PyData.eqv]
  | _, _, _, _, .tup _ _, .str _ => by simp [toD, PyData.eqv]
  | n + 1, m + 1, .tup l, .tup l', .tup _ h, .tup _ h' => by
    have key : ∀ l l' : List PV, (∀ x ∈ l, TxtD n x) → (∀ x ∈ l', TxtD m x) → (PyData.eqvAll (toDs l) (toDs l') = true ↔ l = l') := by
      intro l
      induction l with
      | nil =>
        intro l' _ _
        cases l' with
        | nil => simp [toDs, PyData.eqvAll]
        | cons y l' => simp [toDs, PyData.eqvAll]
      | cons x l ih =>
        intro l' h h'
        cases l' with
        | nil => simp [toDs, PyData.eqvAll]
        | cons y l' =>
          show (PyData.eqv (toD x) (toD y) && PyData.eqvAll (toDs l) (toDs l')) = true ↔ _
          rw [Bool.and_eq_true, TxtD.eqv (h x List.mem_cons_self) (h' y List.mem_cons_self), ih l' (fun z hz => h z (List.mem_cons_of_mem _ hz)) (fun z hz => h' z (List.mem_cons_of_mem _ hz)), List.cons.injEq]
    show PyData.eqvAll (toDs l) (toDs l') = true ↔ _
    rw [key l l' h h', PV.tup.injEq]
theorem any_txt {n m : Nat} {x : PV} {l : List PV} (hx : TxtD n x) (hl : ∀ z ∈ l, TxtD m z) : ((toDs l).any fun y => PyData.eqv y (toD x)) = true ↔ x ∈ l := by
  rw [toDs_map, List.any_map, List.any_eq_true]
  constructor
  · rintro ⟨z, hz, e⟩
    rw [← (TxtD.eqv (hl z hz) hx).mp e]; exact hz
  · intro h
    exact ⟨x, h, (TxtD.eqv (hl x h) hx).mpr rfl⟩
def rInF (K : Kf) (neg : Bool) : R2 := fun x y H Q => ∃ d ds, Dp K H x d ∧ Dp K H y (.list ds) ∧ d.plain = true ∧ d.depth ≤ 40 ∧ PyData.plainAll ds = true ∧ Q (.bl (if neg then !(ds.any fun z => PyData.eqv z d) else ds.any fun z => PyData.eqv z d)) H
theorem op_inF (hu : X.A.units + 64 < cLine) : OpR X (compareOp .In) (rInF X.K false) := by
  intro pins s σ H x y v u Q I rx ry h
  obtain ⟨d, ds, hd, he, pd, dd, pe, q⟩ := h
  obtain ⟨as, r1⟩ := Dp.reads I d x v hd rx
  obtain ⟨bs, r2⟩ := Dp.reads I (.list ds) y u he ry
  exact SeqAt.in_list_data r2 r1 pe pd (by have := Nat.min_le_right (PyData.depthAll ds) d.depth; omega) ⟨.bl _, H, I, rfl, q⟩
theorem op_notInF (hu : X.A.units + 64 < cLine) : OpR X (compareOp .NotIn) (rInF X.K true) := by
  intro pins s σ H x y v u Q I rx ry h
  obtain ⟨d, ds, hd, he, pd, dd, pe, q⟩ := h
  obtain ⟨as, r1⟩ := Dp.reads I d x v hd rx
  obtain ⟨bs, r2⟩ := Dp.reads I (.list ds) y u he ry
  exact SeqAt.notIn_list_data r2 r1 pe pd (by have := Nat.min_le_right (PyData.depthAll ds) d.depth; omega) ⟨.bl _, H, I, rfl, q⟩
/-- x in l: tuples among tuples -/
def inDP (K : Kf) (neg : Bool) : R2p := fun x y M Q => match y with
  | .ref a => ∃ l, rdL K M a l ∧ TxtD 40 x ∧ (∀ z ∈ l, TxtD 40 z) ∧ ∀ b, (b = true ↔ x ∈ l) → Q (.bl (if neg then !b else b)) M
  | _ => False
theorem inD_sim {neg : Bool} : SimR K (rInF K neg) (inDP K neg) := fun x y H px py M Q Qp rx ry m u k => by
  cases ry with
  | ref a =>
    obtain ⟨l, h, hx, hl, q⟩ := u
    exact ⟨toD px, toDs l, hx.pure.dp.to m rx, (DpP.lst h (dps_all fun z hz => (hl z hz).pure)).to m (.ref a), hx.pure.plain, hx.pure.depth, plain_all fun z hz => (hl z hz).pure, k _ _ _ _ (Tk.refl _ _) m (.bl _) (q _ (any_txt hx hl))⟩
  | _ => exact u.elim
theorem opInD (hu : X.A.units + 64 < cLine) (hK : X.K = K := by rfl) : OpP X (compareOp .In) (inDP K false) := hK ▸ ⟨_, op_inF hu, inD_sim⟩
theorem opNotInD (hu : X.A.units + 64 < cLine) (hK : X.K = K := by rfl) : OpP X (compareOp .NotIn) (inDP K true) := hK ▸ ⟨_, op_notInF hu, inD_sim⟩
end
end PL

set_option Elab.async false
set_option linter.all false
set_option maxRecDepth 100000
set_option maxHeartbeats 4000000
/-! PL21: a list made longer by another one. -/
namespace PL
open PySem L2
section
variable {X : Cx}
def extendP : RMp := fun x ps M Q => match x, ps with
  | .ref a, [.ref b] => ∃ l r, M a = some (.lst l) ∧ M b = some (.lst r) ∧ l.length + r.length ≤ sizeLine ∧ Q .non (updM M a (.lst (l ++ r)))
  | _, _ => False
theorem mExtend : MtP X "list.extend" extendP := by
  refine ⟨_, mt_extend, fun x xs H px ps M Q Qp rx rs m u k => ?_⟩
  cases rx with
  | ref a => cases rs with
    | nil => exact u.elim
    | cons r rr => cases rr with
      | cons _ _ => cases r <;> exact u.elim
      | nil => cases r with
        | ref b =>
          obtain ⟨l, r, h, h2, hl, q⟩ := u
          obtain ⟨vs, e, rv⟩ := m _ _ h
          obtain ⟨us, e2, ru⟩ := m _ _ h2
          obtain ⟨tk, mm⟩ := Tk_set (l := l) m e (rv.append ru)
          exact ⟨_, _, _, _, rfl, rfl, e, e2, by rw [← rv.length, ← ru.length]; exact hl, k _ _ _ _ tk mm .non q⟩
        | _ => exact u.elim
  | _ => cases rs <;> exact u.elim
end
end PL

set_option Elab.async false
set_option linter.all false
set_option maxRecDepth 100000
set_option maxHeartbeats 4000000
/-! PL22: three names at once. -/
namespace PL
open PySem L2
section
variable {X : Cx} {H0 : Hp} {pos : Pos}
/-- a, b, c = e1, e2, e3 -/
@[reducible] def tPar3 (i j l : Nat) (ta : TAp) : TSp := fun D σ M => ta σ M fun vs M1 => match vs with | [u, v, w] => D.nx (((σ.set i (some u)).set j (some v)).set l (some w)) M1 | _ => False
theorem pspar3 (i j l : Nat) {x y z : Str} {a b c : Expr} {ta : TAp} {px py pz pt : Pos} {kt k2 pt2} (hc : X.calm = true) (hN : X.N.Nodup) (ha : PAp X H0 [a, b, c] ta) (hi : X.N[i]? = some x := by rfl) (hj : X.N[j]? = some y := by rfl) (hl : X.N[l]? = some z := by rfl)
    (p : ∀ t, PA X [a, b, c] t → PS X (.Assign [.Tuple [.Name x px, .Name y py, .Name z pz] kt pt] (.Tuple [a, b, c] k2 pt2) pos) (L2.tPar3 i j l t)) : PSp' X H0 (.Assign [.Tuple [.Name x px, .Name y py, .Name z pz] kt pt] (.Tuple [a, b, c] k2 pt2) pos) (tPar3 i j l ta) :=
  psW (p _ ha) fun D σ H ⟨σp, M, Dp, t, s, m, u, k⟩ => ⟨σp, M, _, t, s, m, u, fun vs H1 ps M1 t1 m1 rs u1 => by
    cases rs with
    | nil => exact u1.elim
    | cons r rr => cases rr with
      | nil => exact u1.elim
      | cons r2 rr2 => cases rr2 with
        | nil => exact u1.elim
        | cons r3 rr3 => cases rr3 with
          | nil => exact ⟨_, _, _, rfl, k.nx _ _ _ _ t1 ((((s.mono t1).set r i).set r2 j).set r3 l) m1 u1⟩
          | cons _ _ => exact u1.elim⟩
end
end PL

set_option Elab.async false
set_option linter.all false
set_option maxRecDepth 100000
set_option maxHeartbeats 4000000
/-! PL23: exceptions of the program's own classes. -/
namespace PL
open PySem L2 PySem.Spec
/-- what is wanted of an exception: its class, its dict, the slots, the heap -/
abbrev PWX := Value → Option Addr → PSt → PHp → Prop
def concW (K : Kf) (H0 : Hp) (pw : PWX) : WX := fun cls d σ H => ∃ σp M, Tk K H0 H ∧ RelS K H σp σ ∧ RelM K H M ∧ pw cls d σp M
theorem concW.imp {K : Kf} {H0 : Hp} {pw pw' : PWX} (h : ∀ c d σ M, pw c d σ M → pw' c d σ M) {c : Value} {d : Option Addr} {σ : L2.St} {H : Hp} (x : concW K H0 pw c d σ H) : concW K H0 pw' c d σ H := by
  obtain ⟨σp, M, a1, a2, a3, a4⟩ := x
  exact ⟨σp, M, a1, a2, a3, h _ _ _ _ a4⟩
/-- an own class over ValueError, without a maker of its own -/
structure Own (K : Kf) (mg : Str → Option Value) (x : Str) (C : Addr) : Prop where
  g : mg x = some (.ref C)
  q : PySem.W.excIn K C [.type "ValueError", .type "Exception", .type "BaseException", .type "object"] "ValueError.__new__" = true
  kp : PySem.W.keepIn K (.ref C) = true
  sb : PySem.W.subIn K (.ref C) (.type "BaseException") = some true
  ty : PySem.W.typeIn K (.ref C) = some (.type "type")
  hd : PySem.W.hasDictIn K C = true
theorem pmk_own1N {X : Cx} {C : Addr} {bmB : List Value} {B newId initId : String} {x : Str} {e : Expr} {ta : TE} {p pos : Pos} (F : ExcBaseFacts B newId initId bmB) (q : PySem.W.excIn X.K C bmB newId = true) (gC : X.mg x = some (.ref C)) (kC : PySem.W.keepIn X.K (.ref C) = true) (r : L2.Raises X (.ref C)) (hg : Gl X x)
    (he : PE X e ta) (hs : starEach [e] X.env = (false, eval e X.env) :: starEach [] X.env := by rfl) (hdb : (x == ("__debug__" : Str)) = false := by decide) :
    L2N.PMk X (.Call (.Name x p) [e] [] pos) (fun σ H Q => ta σ H fun _ H1 => Q (.ref C) none H1) := by
  intro pins s σ H Q I h
  refine wpAny_Call_Name_kw (ld_glob I hg gC ?_ hdb)
  refine PySem.W.callWith_K (h₀ := X.base) I.ok.mod.kin kC ?_ hs (by rfl)
  rw [hs]
  refine Calls.spliced_cons (thn (he.run pins s σ H _ I h) fun u s1 ⟨v, H1, I1, r1, q1⟩ => ?_)
  refine Calls.spliced_nil ⟨I1.kIn, ?_⟩
  obtain ⟨bm, N, nm, qn, bs, hdct, sn, sub, ab, col, dd, k0, k1, k2, k3, k5, mN, hC, hN, hni, T⟩ := exc_obj I1.kIn q
  refine wpAny_call_exc_subT F T hC hN hni (fun h' e hm => ?_) (by show 1 ≤ sizeLine; rw [sizeLine_eq]; omega)
  exact L2N.mk_of I1 hm r q1 (I1.hok.gone hm.new)
/-- where an exception may go -/
structure Air (T : CXT) (X : Cx) (H0 : Hp) (pw : PWX) : Prop where
  pass : ∀ σ, PassesAt T X σ (WE (concW X.K H0 pw) σ)
  raise : ∀ {x m : Str} {C : Addr} {j : Nat} {p p2 pos pos' : Pos}, Own X.K X.mg x C → Gl X x → (x == ("__debug__" : Str)) = false → PS X (.Raise (some (.Call (.Name x p) [.Constant (.str m) j p2] [] pos)) none pos') fun _ σ H => concW X.K H0 pw (.ref C) none σ H
  raise1 : ∀ {x : Str} {C : Addr} {p pos pos' : Pos} {e : Expr} {te : TE}, Own X.K X.mg x C → Gl X x → (x == ("__debug__" : Str)) = false → PE X e te → starEach [e] X.env = (false, eval e X.env) :: starEach [] X.env → PS X (.Raise (some (.Call (.Name x p) [e] [] pos)) none pos') fun _ σ H => te σ H fun _ H1 => concW X.K H0 pw (.ref C) none σ H1
section
variable {X : Cx} {H0 : Hp} {pos : Pos} {pw : PWX}
theorem Air.z (hc : X.calm = true) (tk : L2.Takes X (concW X.K H0 pw)) : Air (L2.CX X.prog X.w) X H0 pw :=
  ⟨fun σ => L2.passAt tk σ, fun O hg hd => L2.ps_raise hc tk (L2.pmk_own PySem.F.excBase_ValueError O.q O.g O.kp (L2.raises_own O.sb O.ty) hg hd), fun O hg hd he hs => L2.ps_raise hc tk (SkE.pmk_own1 PySem.F.excBase_ValueError O.q O.g O.kp (L2.raises_own O.sb O.ty) hg he hs hd)⟩
theorem Air.n (hc : X.calm = true) (tk : L2N.Takes X (concW X.K H0 pw)) : Air (L2N.CX X.prog X.w) X H0 pw :=
  ⟨fun σ => L2N.passAt tk σ, fun O hg hd => L2N.ps_raise hc tk (L2N.pmk_own PySem.F.excBase_ValueError O.q O.g O.kp (L2.raises_own O.sb O.ty) hg hd), fun O hg hd he hs => L2N.ps_raise hc tk (pmk_own1N PySem.F.excBase_ValueError O.q O.g O.kp (L2.raises_own O.sb O.ty) hg he hs hd)⟩
theorem cx_nz {P : Program} {w : World} {outer : List Env} {H : Hp} {s : Shared} {E : XK} {u : Value} {s' : Shared} (h : L2N.CX P w outer H s E u s') : L2.CX P w outer H s E u s' := by
  obtain ⟨a, B, H', cls, d, e, fl, r⟩ := h
  exact ⟨a, B, H', cls, d, e, L2H.flyingZ_imp (fun o => L2N.Zn.zc) fl, r⟩
theorem Air.ofz (h : Air (L2.CX X.prog X.w) X H0 pw) : Air (L2N.CX X.prog X.w) X H0 pw := ⟨fun σ pins H s e s' I c => h.pass σ pins H s e s' I (cx_nz c), h.raise, h.raise1⟩
/-- raise X('..') -/
@[reducible] def tRaise (pw : PWX) (C : Addr) : TSp := fun _ σ M => ∃ M0, Sub M0 M ∧ pw (.ref C) none σ M0
theorem psraise {T : CXT} {x m : Str} {C : Addr} {j : Nat} {p p2 pos2 : Pos} (air : Air T X H0 pw) (O : Own X.K X.mg x C) (hg : Gl X x := by rfl) (hd : (x == ("__debug__" : Str)) = false := by decide) :
    PSp' X H0 (.Raise (some (.Call (.Name x p) [.Constant (.str m) j p2] [] pos2)) none pos) (tRaise pw C) :=
  psW (air.raise O hg hd) fun D σ H ⟨σp, M, Dp, t, s, m, ⟨M0, sb, u⟩, k⟩ => ⟨σp, M0, t, s, m.sub sb, u⟩
/-- raise X(e) -/
@[reducible] def tRaise1 (pw : PWX) (C : Addr) (te : TEp) : TSp := fun _ σ M => te σ M fun _ M1 => ∃ M0, Sub M0 M1 ∧ pw (.ref C) none σ M0
theorem psraise1 {T : CXT} {x : Str} {C : Addr} {e : Expr} {te : TEp} {p pos pos2 : Pos} (air : Air T X H0 pw) (O : Own X.K X.mg x C) (he : PEp X H0 e te) (hg : Gl X x := by rfl) (hd : (x == ("__debug__" : Str)) = false := by decide) (hs : starEach [e] X.env = (false, eval e X.env) :: starEach [] X.env := by rfl) :
    PSp' X H0 (.Raise (some (.Call (.Name x p) [e] [] pos)) none pos2) (tRaise1 pw C te) :=
  psW (air.raise1 O hg hd he hs) fun D σ H ⟨σp, M, Dp, t, s, m, u, k⟩ => ⟨σp, M, _, t, s, m, u, fun v H1 p M1 t1 m1 r ⟨M0, sb, u1⟩ => ⟨σp, M0, t.trans t1, s.mono t1, m1.sub sb, u1⟩⟩
/-- a def that may raise -/
structure CalleeR (T : CXT) (P : Program) (w : World) (K : Kf) (mg : Str → Option Value) (base : Heap) (k : Nat) (x : Str) (ps : List Str) (psp : PSpec) : Prop where
  ex : ∃ f fd, FnOk P w K mg base T k f fd ps (concF K psp) ∧ mg x = some (.ref f) ∧ PySem.W.keepIn K (.ref f) = true ∧ Binds K fd ps []
theorem FnOk.nz {P : Program} {w : World} {K : Kf} {mg : Str → Option Value} {base : Heap} {k : Nat} {f : Addr} {fd : FuncData} {ps : List Str} {sp : Sp} (F : FnOk P w K mg base (L2N.CX P w) k f fd ps sp) : FnOk P w K mg base (L2.CX P w) k f fd ps sp :=
  ⟨F.len, fun A outer s H args us vs Q E hr he hb hv hs => codeAny_mono (F.run A outer s H args us vs Q E hr he hb hv hs) fun r s' h => by
    cases r with
    | error e => exact cx_nz h
    | ok f => cases f <;> exact h⟩
theorem CalleeR.nz {P : Program} {w : World} {K : Kf} {mg : Str → Option Value} {base : Heap} {k : Nat} {x : Str} {ps : List Str} {psp : PSpec} (h : CalleeR (L2N.CX P w) P w K mg base k x ps psp) : CalleeR (L2.CX P w) P w K mg base k x ps psp := by
  obtain ⟨f, fd, F, r⟩ := h.ex
  exact ⟨⟨f, fd, FnOk.nz F, r⟩⟩
theorem CalleeR.mono {T : CXT} {P : Program} {w : World} {K : Kf} {mg : Str → Option Value} {base : Heap} {j k : Nat} {x : Str} {ps : List Str} {psp : PSpec} (h : CalleeR T P w K mg base j x ps psp) (l : j ≤ k) : CalleeR T P w K mg base k x ps psp := by
  obtain ⟨f, fd, F, r⟩ := h.ex
  exact ⟨⟨f, fd, F.mono l, r⟩⟩
theorem CalleeR.imp {T : CXT} {P : Program} {w : World} {K : Kf} {mg : Str → Option Value} {base : Heap} {k : Nat} {x : Str} {ps : List Str} {psp psp' : PSpec} (h : CalleeR T P w K mg base k x ps psp) (l : ∀ vs M Q E, psp' vs M Q E → psp vs M Q E) : CalleeR T P w K mg base k x ps psp' := by
  obtain ⟨f, fd, F, r⟩ := h.ex
  exact ⟨⟨f, fd, F.imp fun vs H Q E ⟨ps, M, Qp, Ep, h1, h2, h3, h4⟩ => ⟨ps, M, Qp, Ep, h1, h2, l _ _ _ _ h3, h4⟩, r⟩⟩
@[reducible] def tCallR (psp : PSpec) (pw : PWX) (ta : TAp) : TEp := fun σ M Q => ta σ M fun ps M1 => psp ps M1 Q fun cls d M2 => pw cls d σ M2
theorem callR_conc {K : Kf} {psp : PSpec} {ta : TAp} {σ : L2.St} {H : Hp} {Q : VK} (h : concE K H0 (tCallR psp pw ta) σ H Q) : L2.tCallS (concF K psp) (WE (concW K H0 pw)) (concA K H0 ta) σ H Q := by
  obtain ⟨σp, M, Qp, t, s, m, u, k⟩ := h
  refine ⟨σp, M, _, t, s, m, u, fun vs H1 ps M1 t1 m1 rs u1 => ?_⟩
  exact ⟨ps, M1, Qp, _, rs, m1, u1, fun v H2 p M2 t2 => k v H2 p M2 (t1.trans t2), fun cls d H2 M2 t2 m2 z => ⟨σp, M2, t.trans (t1.trans t2), s.mono (t1.trans t2), m2, z⟩⟩
theorem pcallR {T : CXT} {k : Nat} {x : Str} {ps : List Str} {psp : PSpec} {p : Pos} {e : Expr} {es : List Expr} {ta : TAp} (C : CalleeR T X.prog X.w X.K X.mg X.base k x ps psp) (air : Air T X H0 pw) (hr : Room k X.A) (ha : PAp X H0 (e :: es) ta) (hg : Gl X x := by rfl) (hd : (x == ("__debug__" : Str)) = false := by decide)
    (he : starEach (e :: es) X.env = (false, eval e X.env) :: starEach es X.env := by rfl) (hpl : (backTo pos (starEach es X.env)).any (·.1) = false := by rfl) : PEp X H0 (.Call (.Name x p) (e :: es) [] pos) (tCallR psp pw ta) := by
  obtain ⟨f, fd, F, hm, hk, hb⟩ := C.ex
  exact peW (L2.pe_callS F hr hg hm hk hb (fun σ => air.pass σ) ha hd he hpl) fun σ H Q h => callR_conc h
/-! ### a def that raises -/
abbrev defCxR (T : CXT) (P : Program) (w : World) (K : Kf) (mg : Str → Option Value) (base : Heap) (N : List Str) (x : Str) (st : Stmt) (f : Addr) (cdv : Value) (A : Around) (outer : List Env) (s : Shared) (H : Hp) (E : XK) : Cx :=
  cxOf T P w K mg base N x (defScope st) f cdv A outer s H E
theorem okR_z {P : Program} {w : World} {K : Kf} {mg : Str → Option Value} {base : Heap} {k : Nat} {x : Str} {st : Stmt} {N ps : List Str} {psp : PSpec} (h : Here K mg x st ps) (S : FnScope N ps (defScope st)) (len : ∀ vs M Q E, psp vs M Q E → vs.length = ps.length)
    (body : ∀ f cdv A outer s H E (Ep : PXK), Room k (defCxR (L2.CX P w) P w K mg base N x st f cdv A outer s H E).A → Air (L2.CX P w) (defCxR (L2.CX P w) P w K mg base N x st f cdv A outer s H E) H (fun cls d _ M => Ep cls d M) →
      L2.Takes (defCxR (L2.CX P w) P w K mg base N x st f cdv A outer s H E) (concW K H fun cls d _ M => Ep cls d M) →
      PassesOwn (model P w) (defCxR (L2.CX P w) P w K mg base N x st f cdv A outer s H E).A (defCxR (L2.CX P w) P w K mg base N x st f cdv A outer s H E).env (defCxR (L2.CX P w) P w K mg base N x st f cdv A outer s H E).xe →
      ∃ t, PSsp (defCxR (L2.CX P w) P w K mg base N x st f cdv A outer s H E) H (defBody st) t ∧ ∀ vs M Q, psp vs M Q Ep → t (ends Q) (startP N vs) M) :
    CalleeR (L2.CX P w) P w K mg base (k + 1) x ps psp := by
  obtain ⟨f, fd, F, hm, hb⟩ := h.ex
  refine ⟨⟨f, fd, ?_, hm, F.kp, hb⟩⟩
  obtain ⟨oc, od, kV, doc, pm, an, cdv, ct, osl, rfl, lk, hcd⟩ := F.ex
  refine fn_of lk hcd S (fun vs H Q E h => ?_) fun A outer s H vs Q E hr h => ?_
  · obtain ⟨qs, M, Qp, Ep, r, m, u, _⟩ := h
    rw [← r.length]
    exact len _ _ _ _ u
  · obtain ⟨qs, M, Qp, Ep, r, m, u, k1, k2⟩ := h
    have tk : L2.Takes (defCxR (L2.CX P w) P w K mg base N x st f cdv A outer s H E) (concW K H fun cls d _ M => Ep cls d M) := (L2.takes_of (E := E) rfl rfl rfl rfl).imp fun c d σ H' z => by
      obtain ⟨σp, M', t', _, m', q⟩ := z
      exact k2 c d H' M' t' m' q
    obtain ⟨t, d, b⟩ := body f cdv A outer s H E Ep hr (Air.z rfl tk) tk (L2.passes_of rfl)
    refine ⟨_, d, startP N qs, M, ends Qp, Tk.refl _ _, startP_rel r N, m, b _ _ _ u, ⟨fun σ' H' σp' M' t1 s1 m1 q => ?_, fun v H' p M' t1 m1 r1 q => ?_, fun _ _ _ _ _ _ _ z => z.elim, fun _ _ _ _ _ _ _ z => z.elim⟩⟩
    · obtain ⟨M0, sb, q⟩ := q
      exact k1 _ _ _ _ t1 (m1.sub sb) .non q
    · obtain ⟨M0, sb, q⟩ := q
      exact k1 _ _ _ _ t1 (m1.sub sb) r1 q
theorem okR_n {P : Program} {w : World} {K : Kf} {mg : Str → Option Value} {base : Heap} {k : Nat} {x : Str} {st : Stmt} {N ps : List Str} {psp : PSpec} (h : Here K mg x st ps) (S : FnScope N ps (defScope st)) (len : ∀ vs M Q E, psp vs M Q E → vs.length = ps.length)
    (body : ∀ f cdv A outer s H E (Ep : PXK), Room k (defCxR (L2N.CX P w) P w K mg base N x st f cdv A outer s H E).A → Air (L2N.CX P w) (defCxR (L2N.CX P w) P w K mg base N x st f cdv A outer s H E) H (fun cls d _ M => Ep cls d M) →
      PassesOwn (model P w) (defCxR (L2N.CX P w) P w K mg base N x st f cdv A outer s H E).A (defCxR (L2N.CX P w) P w K mg base N x st f cdv A outer s H E).env (defCxR (L2N.CX P w) P w K mg base N x st f cdv A outer s H E).xe →
      ∃ t, PSsp (defCxR (L2N.CX P w) P w K mg base N x st f cdv A outer s H E) H (defBody st) t ∧ ∀ vs M Q, psp vs M Q Ep → t (ends Q) (startP N vs) M) :
    CalleeR (L2N.CX P w) P w K mg base (k + 1) x ps psp := by
  obtain ⟨f, fd, F, hm, hb⟩ := h.ex
  refine ⟨⟨f, fd, ?_, hm, F.kp, hb⟩⟩
  obtain ⟨oc, od, kV, doc, pm, an, cdv, ct, osl, rfl, lk, hcd⟩ := F.ex
  refine fn_of lk hcd S (fun vs H Q E h => ?_) fun A outer s H vs Q E hr h => ?_
  · obtain ⟨qs, M, Qp, Ep, r, m, u, _⟩ := h
    rw [← r.length]
    exact len _ _ _ _ u
  · obtain ⟨qs, M, Qp, Ep, r, m, u, k1, k2⟩ := h
    have tk : L2N.Takes (defCxR (L2N.CX P w) P w K mg base N x st f cdv A outer s H E) (concW K H fun cls d _ M => Ep cls d M) := (L2N.takes_of (E := E) rfl rfl rfl rfl).imp fun c d σ H' z => by
      obtain ⟨σp, M', t', _, m', q⟩ := z
      exact k2 c d H' M' t' m' q
    obtain ⟨t, d, b⟩ := body f cdv A outer s H E Ep hr (Air.n rfl tk) (L2.passes_of rfl)
    refine ⟨_, d, startP N qs, M, ends Qp, Tk.refl _ _, startP_rel r N, m, b _ _ _ u, ⟨fun σ' H' σp' M' t1 s1 m1 q => ?_, fun v H' p M' t1 m1 r1 q => ?_, fun _ _ _ _ _ _ _ z => z.elim, fun _ _ _ _ _ _ _ z => z.elim⟩⟩
    · obtain ⟨M0, sb, q⟩ := q
      exact k1 _ _ _ _ t1 (m1.sub sb) .non q
    · obtain ⟨M0, sb, q⟩ := q
      exact k1 _ _ _ _ t1 (m1.sub sb) r1 q
end
end PL

set_option Elab.async false
set_option linter.all false
set_option maxRecDepth 100000
set_option maxHeartbeats 4000000
/-! PL24: try .. except X as e; try .. except X: raise Y(..) from None; isinstance of what was caught. -/
namespace PL
open PySem L2
theorem RelS.unset {K : Kf} {H : Hp} {v : Option V} : ∀ {σ τ} (i : Nat), RelS K H σ τ → RelS K H (σ.set i none) (τ.set i v)
  | _, _, _, .nil => .nil
  | _, _, 0, .no t => .no t
  | _, _, 0, .yes _ t => .no t
  | _, _, i + 1, .no t => .no (RelS.unset i t)
  | _, _, i + 1, .yes q t => .yes q (RelS.unset i t)
section
variable {X : Cx} {H0 : Hp}
@[reducible] def tTryAs (K : Kf) (i : Nat) (c : Value) (tb : PWX → TSp) (ts : Addr → Value → Option Addr → TSp) : TSp := fun D σ M =>
  tb (fun cls d σ' M' => PySem.W.exmOne K cls c = some true ∧ ∀ a, M' a = none → ts a cls d { nx := fun σ2 M2 => D.nx (σ2.set i none) M2, rt := D.rt, bk := fun σ2 M2 => D.bk (σ2.set i none) M2, ct := fun σ2 M2 => D.ct (σ2.set i none) M2 } (σ'.set i (some (.ref a))) M') D σ M
theorem pstryas {x n : Str} {c : Value} {body suite : List Stmt} {b₀ : Stmt} {np pos pos' : Pos} {tb : PWX → TSp} {ts : Addr → Value → Option Addr → TSp} (i : Nat) (hk : X.calm = true) (hs : X.stack = X.env :: X.outer) (hf : X.env.frame = some X.env.locals) (hN : X.N.Nodup)
    (hc : Names X x c)
    (hb : ∀ (H1 : Hp) (pw : PWX) (pn : List (Addr × Obj)) (xe : Value → Shared → Prop), Air (L2.CX X.prog X.w) (X.tr pn xe) H1 pw → PassesOwn (model X.prog X.w) X.A X.env xe → PSsp (X.tr pn xe) H1 body (tb pw))
    (hsu : ∀ (a : Addr) (oe : Obj) (cls : Value) (d : Option Addr) (pn : List (Addr × Obj)), Zc cls d oe → (∃ vs, oe.data = .fields vs) → PSsp (X.suite a ((a, oe) :: pn)) H0 (b₀ :: suite) (ts a cls d))
    (hi : X.N[i]? = some n := by rfl) (hln : X.env.kindOf n = some .local := by rfl) :
    PSp' X H0 (.Try body [.ExceptHandler (some (.Name x np)) (some n) (b₀ :: suite) pos'] [] [] pos) (tTryAs X.K i c tb ts) := by
  refine psW (L2.ps_try_as (tb := fun W D σ H => ∃ H1 pw, (∀ c d σ H, concW X.K H1 pw c d σ H → W c d σ H) ∧ concS X.K H1 (tb pw) D σ H) (ts := fun a cls d => concS X.K H0 (ts a cls d)) (Wout := fun _ _ _ _ => False) hs hf hN hi hln hc (fun u s' x => ?_) (fun W pn xe tk po => ⟨fun pins s σ H D I h => ?_⟩) (fun a oe cls d pn hz hv => hsu a oe cls d pn hz hv)) fun D σ H ⟨σp, M, Dp, t, s, m, u, k⟩ => ?_
  · obtain ⟨a, B, sI, pins, σ, H, cls, d, h⟩ := x
    exact h.2.2.2.2.2.2.2.2.elim
  · obtain ⟨H1, pw, imp, h⟩ := h
    exact (hb H1 pw pn xe (Air.z (X := X.tr pn xe) hk (tk.imp imp)) po).run pins s σ H D I h
  · refine ⟨H, _, ?_, σp, M, Dp, Tk.refl _ _, s, m, u, k⟩
    intro cls d σ1 H1 ⟨σp1, M1, t1, s1, m1, q1, q2⟩
    refine ⟨true, q1, fun _ a na => ?_, fun z => nomatch z⟩
    refine ⟨σp1.set i (some (.ref a)), M1, _, t.trans t1, s1.set (.ref a) i, m1, q2 a (m1.fresh na), ⟨fun σ2 H2 σp2 M2 t2 s2 m2 z => ?_, fun v H2 p M2 t2 => k.rt v H2 p M2 (t1.trans t2), fun σ2 H2 σp2 M2 t2 s2 m2 z => ?_, fun σ2 H2 σp2 M2 t2 s2 m2 z => ?_⟩⟩
    · exact k.nx _ _ _ _ (t1.trans t2) (s2.unset i) m2 z
    · exact k.bk _ _ _ _ (t1.trans t2) (s2.unset i) m2 z
    · exact k.ct _ _ _ _ (t1.trans t2) (s2.unset i) m2 z
/-! ### raise Y(..) from None -/
theorem pmk5_own {x m : Str} {C : Addr} {j : Nat} {p p2 pos : Pos} (O : Own X.K X.mg x C) (hg : Gl X x) (hdb : (x == ("__debug__" : Str)) = false) : L2H.PMk5 X (.Call (.Name x p) [.Constant (.str m) j p2] [] pos) (fun _ H Q => Q (.ref C) none H) := by
  intro pins s σ H Q I h
  refine wpAny_Call_Name_kw (ld_glob I hg O.g ?_ hdb)
  have ha : PA X [.Constant (.str m) j p2] (L2.tCons (L2.tC (.str m)) L2.tNil) := L2.pa_cons L2.pe_str L2.pa_nil
  refine PySem.W.callWith_K (h₀ := X.base) I.ok.mod.kin O.kp (thn (ha.run pos pins s σ H (fun vs H1 => vs = [V.str m] ∧ H = H1) I ⟨rfl, rfl⟩) fun us s1 hh => ?_)
  obtain ⟨vs, H1, I1, r1, ev, eH⟩ := hh
  subst ev
  rw [← eH] at I1
  refine ⟨I1.kIn, ?_⟩
  cases r1 with
  | cons ru rn =>
    rename_i u us'
    cases rn
    show wpAny _ _ (call (.ref C) [u]) _ _ _
    obtain ⟨bm, N, nm, qn, bs, hdct, sn, sub, ab, col, dd, k0, k1, k2, k3, k5, mN, hC, hN, hni, T⟩ := L2.exc_obj I1.kIn O.q
    refine wpAny_call_exc_subT PySem.F.excBase_ValueError T hC hN hni (fun h' e hm => ?_) (by show 1 ≤ sizeLine; rw [sizeLine_eq]; omega)
    exact L2H.mk_of5 I1 hm (L2.raises_own O.sb O.ty) h (I1.hok.gone hm.new)
@[reducible] def tTryRe (K : Kf) (c : Value) (C : Addr) (tb : PWX → TSp) (pw : PWX) : TSp := fun D σ M => tb (fun cls d σ' M' => PySem.W.exmOne K cls c = some true ∧ pw (.ref C) none σ' M') D σ M
theorem pstryre {x y msg : Str} {c : Value} {C : Addr} {body : List Stmt} {j j2 : Nat} {np pos pos' p1 p2 p3 p4 p5 : Pos} {tb : PWX → TSp} {pw : PWX} (hk : X.calm = true) (hs : X.stack = X.env :: X.outer) (hf : X.env.frame = some X.env.locals)
    (hpa : ∀ hd : Option Value, PassesOwnAt (model X.prog X.w) (X.A.mark hd) X.A X.env X.xe) (tk : L2.Takes X (concW X.K H0 pw)) (hc : Names X x c) (O : Own X.K X.mg y C)
    (hb : ∀ (H1 : Hp) (pw : PWX) (pn : List (Addr × Obj)) (xe : Value → Shared → Prop), Air (L2N.CX X.prog X.w) (X.tr pn xe) H1 pw → PassesOwn (model X.prog X.w) X.A X.env xe → PSsp (X.tr pn xe) H1 body (tb pw))
    (hg : Gl X y := by rfl) (hd : (y == ("__debug__" : Str)) = false := by decide) :
    PSp' X H0 (.Try body [.ExceptHandler (some (.Name x np)) none [.Raise (some (.Call (.Name y p1) [.Constant (.str msg) j p2] [] p3)) (some (.Constant .none j2 p4)) p5] pos'] [] [] pos) (tTryRe X.K c C tb pw) := by
  refine psW (L2H.ps_try_onlyX (tb := fun W D σ H => ∃ H1 pw, (∀ c d σ H, concW X.K H1 pw c d σ H → W c d σ H) ∧ concS X.K H1 (tb pw) D σ H) (ts := fun a cls d => fun _ σ H => concW X.K H0 pw (.ref C) none σ H) hs hf hc hpa tk (fun W pn xe tkn tkp po => ⟨fun pins s σ H D I h => ?_⟩) (fun a oe cls d pn hz hv tkS hot => ?_)) fun D σ H ⟨σp, M, Dp, t, s, m, u, k⟩ => ?_
  · obtain ⟨H1, pw, imp, h⟩ := h
    exact (hb H1 pw pn xe (Air.n (X := X.tr pn xe) hk (tkn.imp imp)) po).run pins s σ H D I h
  · exact L2.pss_one (L2H.ps_raiseHN hot tkS (pmk5_own (X := L2H.suiteX X a ((a, oe) :: pn)) O hg hd))
  · refine ⟨H, _, ?_, σp, M, Dp, Tk.refl _ _, s, m, u, k⟩
    intro cls d σ1 H1 ⟨σp1, M1, t1, s1, m1, q1, q2⟩
    exact ⟨true, q1, fun _ a na => ⟨σp1, M1, t.trans t1, s1, m1, q2⟩, fun z => nomatch z⟩
/-! ### isinstance of what was caught -/
inductive ClsPV : PV → Value → Prop
  | ref (a : Addr) : ClsPV (.ref a) (.ref a)
  | ty (n : String) : ClsPV (.ty n) (.type n)
inductive ClsPVs : List PV → List Value → Prop
  | nil : ClsPVs [] []
  | cons {p v ps vs} : ClsPV p v → ClsPVs ps vs → ClsPVs (p :: ps) (v :: vs)
theorem ClsPV.rep {K : Kf} {H : Hp} {p : PV} {c : Value} (h : ClsPV p c) {v : V} (r : Rep K H p v) : ∀ u, RelV v u → u = c := by
  cases h with
  | ref a => cases r; exact fun u z => z
  | ty n => cases r; exact fun u z => z
theorem ClsPVs.reps {K : Kf} {H : Hp} {ps : List PV} {cs : List Value} (h : ClsPVs ps cs) : ∀ {vs : List V}, Reps K H ps vs → ∀ {us : List Value}, Vals vs us → us = cs := by
  induction h with
  | nil => intro vs r us z; cases r; cases z; rfl
  | cons hc _ ih =>
    intro vs r us z
    cases r with
    | cons r1 rr =>
      cases z with
      | cons z1 zz => rw [hc.rep r1 _ z1, ih rr zz]
/-- isinstance(e, c) and isinstance(e, (c1, ..)), e the exception that the suite holds -/
def isExP (K : Kf) (a : Addr) (cls : Value) (d : Option Addr) : RCp := fun xs M Q => ∃ (D : Addr) (b : Bool), cls = .ref D ∧ d = none ∧ ExcC K D ∧ (match xs with
  | [.ref a', .tup cs] => a' = a ∧ ∃ us, ClsPVs cs us ∧ PySem.W.kitAny K (.ref D) us = some b
  | [.ref a', c] => a' = a ∧ ∃ u, ClsPV c u ∧ PySem.W.kitOne K (.ref D) u = some b
  | _ => False) ∧ Q (.bl b) M
def rIsEx (K : Kf) (D a : Addr) : List V → Hp → VK → Prop := fun xs H Q => ∃ (tp : Addr) (cs : List V) (us : List Value) (b : Bool), xs = [.ref a, .ref tp] ∧ SqT K H tp cs ∧ (∀ ws, Vals cs ws → ws = us) ∧ PySem.W.kitAny K (.ref D) us = some b ∧ Q (.bl b) H
theorem call_isEx {a D : Addr} {oe : Obj} {pn : List (Addr × Obj)} (C : ExcC X.K D) (hz : Zc (.ref D) none oe) (hf : ∃ vs, oe.data = .fields vs) : CallR (X.suite a ((a, oe) :: pn)) (.builtin "isinstance") (rIsEx X.K D a) := by
  rintro pins s σ H xs us Q I r ⟨tp, cs, ws, b, rfl, there, hcv, e, q⟩
  obtain ⟨ux, ut, rfl, rx, rt⟩ := vals2 r
  cases (show ut = Value.ref tp from rt)
  cases (show ux = Value.ref a from rx)
  obtain ⟨its, rv, ⟨⟨oc, od, dt, sl⟩, at_tp, hc, n, hd⟩, _⟩ := I.tuple there
  have e2 := hcv _ rv
  simp only at hc hd
  subst hc hd
  obtain ⟨hget, _⟩ := I.pin (a, oe) (List.mem_append.mpr (.inl List.mem_cons_self))
  obtain ⟨vs, hv⟩ := hf
  have J : PySem.W.InstAt s.heap a oe D none := by
    obtain ⟨oc, od, oda, osl⟩ := oe
    obtain ⟨h1, h2⟩ := hz
    dsimp only at h1 h2 hv
    subst h1 h2 hv
    exact ⟨hget, rfl, rfl, trivial⟩
  exact PySem.W.kia_tup (PySem.W.handS_kitx_exc C.hg C.hk C.hs C.hd C.ha C.hn C.ht C.hm) I.kIn J at_tp (by rw [e2]; exact e) (fun z => nomatch z) fun tk => ⟨.bl b, H, I.tok tk, rfl, q⟩
theorem cIsEx {a : Addr} {cls : Value} {d : Option Addr} {oe : Obj} {pn : List (Addr × Obj)} (hz : Zc cls d oe) (hf : ∃ vs, oe.data = .fields vs) : CallP (X.suite a ((a, oe) :: pn)) (.builtin "isinstance") (isExP X.K a cls d) := by
  refine ⟨fun xs H Q => ∃ D, cls = .ref D ∧ d = none ∧ ExcC X.K D ∧ (rIsE X.K D a xs H Q ∨ rIsEx X.K D a xs H Q), ?_, fun xs H ps M Q Qp rs m u k => ?_⟩
  · rintro pins s σ H xs us Q I r ⟨D, rfl, rfl, C, h | h⟩
    · exact L2.call_isE C hz hf pins s σ H xs us Q I r h
    · exact call_isEx C hz hf pins s σ H xs us Q I r h
  · obtain ⟨D, b, e1, e2, C, u, q⟩ := u
    refine ⟨D, e1, e2, C, ?_⟩
    have go : Q (.bl b) H := k _ _ _ _ (Tk.refl _ _) m (.bl _) q
    cases rs with
    | nil => exact u.elim
    | cons r rr => cases rr with
      | nil => cases r <;> exact u.elim
      | cons r2 rr2 => cases rr2 with
        | cons _ _ => cases r <;> cases r2 <;> exact u.elim
        | nil =>
          cases r with
          | ref a' =>
            cases r2 with
            | tup h r3 =>
              obtain ⟨rfl, us, h1, h2⟩ := u
              exact .inr ⟨_, _, us, b, rfl, h.t, fun ws z => h1.reps r3 z, h2, go⟩
            | ref c => obtain ⟨rfl, us, h1, h2⟩ := u; exact .inl ⟨_, us, b, rfl, h1.rep (K := X.K) (H := H) (.ref c), h2, go⟩
            | ty c => obtain ⟨rfl, us, h1, h2⟩ := u; exact .inl ⟨_, us, b, rfl, h1.rep (K := X.K) (H := H) (.ty c), h2, go⟩
            | non => obtain ⟨rfl, us, h1, h2⟩ := u; cases h1
            | bl c => obtain ⟨rfl, us, h1, h2⟩ := u; cases h1
            | int c => obtain ⟨rfl, us, h1, h2⟩ := u; cases h1
            | str c => obtain ⟨rfl, us, h1, h2⟩ := u; cases h1
          | _ => cases r2 <;> exact u.elim
theorem pglobC {x : Str} {C : Addr} {pos : Pos} (hg : Gl X x) (hm : X.mg x = some (.ref C)) (hd : (x == ("__debug__" : Str)) = false := by decide) : PEp X H0 (.Name x pos) (tc (.ref C)) := pglob hg hm (v := .ref C) rfl (fun _ => .ref C) hd
end
end PL

set_option Elab.async false
set_option linter.all false
set_option maxRecDepth 100000
set_option maxHeartbeats 4000000
/-! PL25: == and != of deep data, kept whole. -/
namespace PL
open PySem L2
theorem eqD_txt {K : Kf} {x y : PV} {M : PHp} {Q : Bool → Prop} (hx : TxtD 40 x) (hy : TxtD 40 y) (q : ∀ b, (b = true ↔ x = y) → Q b) : eqD K x y M Q :=
  eqD_fl hx.pure.dp hy.pure.dp ⟨hx.pure.plain, Nat.le_trans hx.pure.depth (by decide)⟩ ⟨hy.pure.plain, Nat.le_trans hy.pure.depth (by decide)⟩ (q _ (TxtD.eqv hx hy))
def eqDP (K : Kf) : R2p := fun x y M Q => TxtD 40 x ∧ TxtD 40 y ∧ ∀ b, (b = true ↔ x = y) → Q (.bl b) M
def neDP (K : Kf) : R2p := fun x y M Q => TxtD 40 x ∧ TxtD 40 y ∧ ∀ b, (b = true ↔ x ≠ y) → Q (.bl b) M
theorem eqDP_eq {K : Kf} {x y : PV} {M : PHp} {Q : PVK} (h : eqDP K x y M Q) : eqP K x y M Q := by
  obtain ⟨h1, h2, q⟩ := h
  unfold eqP
  split
  · exact q _ (by simp)
  · exact q _ (by simp)
  · exact q _ (by simp)
  · exact eqD_txt h1 h2 q
theorem neDP_ne {K : Kf} {x y : PV} {M : PHp} {Q : PVK} (h : neDP K x y M Q) : neP K x y M Q := by
  obtain ⟨h1, h2, q⟩ := h
  unfold neP
  split
  · exact q _ (by simp)
  · exact q _ (by simp)
  · exact q _ (by simp)
  · exact eqD_txt h1 h2 fun b hb => q _ (by cases b <;> simp_all)
section
variable {X : Cx} {K : Kf}
theorem opEqD (hu : X.A.units + 64 < cLine) (hK : X.K = K := by rfl) : OpP X (compareOp .Eq) (eqDP K) := by
  subst hK
  obtain ⟨r, h1, h2⟩ := opEq (X := X) hu
  exact ⟨r, h1, fun x y H px py M Q Qp rx ry m u k => h2 x y H px py M Q Qp rx ry m (eqDP_eq u) k⟩
theorem opNeD (hu : X.A.units + 64 < cLine) (hK : X.K = K := by rfl) : OpP X (compareOp .NotEq) (neDP K) := by
  subst hK
  obtain ⟨r, h1, h2⟩ := opNe (X := X) hu
  exact ⟨r, h1, fun x y H px py M Q Qp rx ry m u k => h2 x y H px py M Q Qp rx ry m (neDP_ne u) k⟩
end
end PL

set_option Elab.async false
set_option linter.all false
set_option maxRecDepth 100000
set_option maxHeartbeats 4000000
/-! PL26: x in a text; a module's own text. -/
namespace PL
open PySem L2
/-- i stands in j -/
def hasS (i j : Str) : Bool := !(Builtin.Str.occurrences j i 0 j.length 1).isEmpty
def inSP : R2p := fun x y M Q => match x, y with
  | .str i, .str j => Q (.bl (hasS i j)) M
  | _, _ => False
def notInSP : R2p := fun x y M Q => match x, y with
  | .str i, .str j => Q (.bl (!hasS i j)) M
  | _, _ => False
section
variable {X : Cx} {H0 : Hp}
theorem opInS : OpP X (compareOp .In) inSP := by
  refine ⟨_, op_in_str, fun x y H px py M Q Qp rx ry m u k => ?_⟩
  cases rx with
  | str i => cases ry with
    | str j => exact ⟨i, j, rfl, rfl, k _ _ _ _ (Tk.refl _ _) m (.bl _) u⟩
    | _ => exact u.elim
  | _ => cases ry <;> exact u.elim
theorem opNotInS : OpP X (compareOp .NotIn) notInSP := by
  refine ⟨_, op_notIn_str, fun x y H px py M Q Qp rx ry m u k => ?_⟩
  cases rx with
  | str i => cases ry with
    | str j => exact ⟨i, j, rfl, rfl, k _ _ _ _ (Tk.refl _ _) m (.bl _) u⟩
    | _ => exact u.elim
  | _ => cases ry <;> exact u.elim
theorem pglobS {x z : Str} {pos : Pos} (hg : Gl X x) (hm : ∃ t, X.mg x = some (.str z t)) (hd : (x == ("__debug__" : Str)) = false := by decide) : PEp X H0 (.Name x pos) (tc (.str z)) := by
  obtain ⟨t, hm⟩ := hm
  exact pglob hg hm (v := .str z) ⟨t, rfl⟩ (fun _ => .str z) hd
end
end PL

set_option Elab.async false
set_option linter.all false
set_option maxRecDepth 100000
set_option maxHeartbeats 4000000
/-! PL27: enumerate over a list or a tuple. -/
namespace PL
open PySem PySem.Spec L2 PyProof.Rows
set_option maxHeartbeats 4000000 in
theorem meets_enumB {v : Value} {o : Obj} {H : Heap → Prop} (B : Begins v o H) :
    Meets (Builtin.«enumerate.__new__» ⟨[.type "enumerate", v], []⟩) (fun _ R s => H s.heap ∧
      R (.ok (.ret (.ref (s.heap.push o).objs.size))) { s with heap := (s.heap.push o).push { cls := .type "enumerate", data := .fields #[.none, .bool false, .ref s.heap.objs.size, rawInt 0, .none, .none] } }) :=
  .of_wp fun prog w A R s h => by
    obtain ⟨hp, g, d, tk, os⟩ := s; obtain ⟨h1, h⟩ := h
    have hsub := sub_enumerate
    have q1 : ∀ {A' : Around} {E : Value → Shared → Prop} {Q : Value → Shared → Prop}, Q (.ref hp.objs.size) ⟨hp.push o, g, d, tk, os⟩ → wpAny (model prog w) A' (pyIter v) Q E ⟨hp, g, d, tk, os⟩ :=
      fun q => B.iter prog w _ _ ⟨hp, g, d, tk, os⟩ _ h1 q
    wp_walk using q1
    refine wpAny_stack_any fun st => wpAny_pure ?_
    split
    · rename_i c _ _ _ _ _
      cases (c == Value.type "enumerate")
      · wp_walk using q1
        exact ⟨_, rfl, h⟩
      · wp_walk using q1
        exact ⟨_, rfl, h⟩
    · wp_walk using q1
      exact ⟨_, rfl, h⟩
section
variable {prog : Program} {w : World} {A : Around} {E : Value → Shared → Prop} {s : Shared}
theorem call_enumB {v : Value} {o : Obj} {H : Heap → Prop} {Q : Value → Shared → Prop} (B : Begins v o H) (h1 : H s.heap)
    (h : ∀ h', IsEnum h' (s.heap.objs.size + 1) s.heap.objs.size 0 .none → h'.get? s.heap.objs.size = some o → h'.objs.size = s.heap.objs.size + 2 →
      (∀ b o, s.heap.get? b = some o → h'.get? b = some o) → Q (.ref (s.heap.objs.size + 1)) { s with heap := h' }) :
    wpAny (model prog w) A (call (.type "enumerate") [v]) Q E s := by
  refine callType_new F.called_enumerate (by decide) (F.typeCall_enumerate_1 _) (F.newCall_enumerate_1 _) (fun obj => F.args_object_init_2 obj _) F.entry_enumerate_new
    (meets_enumB B) ⟨h1, ?_⟩
  have hz : (s.heap.push o).objs.size = s.heap.objs.size + 1 := Heap.size_push ..
  show _ ∧ _
  rw [hz]
  have he : IsEnum ((s.heap.push o).push
      { cls := .type "enumerate", data := .fields #[.none, .bool false, .ref s.heap.objs.size, rawInt 0, .none, .none] }) (s.heap.objs.size + 1) s.heap.objs.size 0 .none := by
    have := Heap.get?_push_size (s.heap.push o)
      (o := { cls := .type "enumerate", data := .fields #[.none, .bool false, .ref s.heap.objs.size, rawInt 0, .none, .none] }) rfl
    rw [hz] at this; exact this
  refine ⟨⟨_, he, rfl⟩, h _ he (Heap.get?_push_of_some _ (Heap.get?_push_size _ B.free)) (by rw [Heap.size_push, hz]) fun b o x => Heap.get?_push_of_some _ (Heap.get?_push_of_some _ x)⟩
end
section
variable {K : Kf} {X : Cx} {H0 : Hp} {pos : Pos}
/-- the places that are walked: a list or a tuple -/
def enumIt (Sq : Hp → List V → Prop) : It :=
  ⟨fun i H => ∃ (xs : List V) (x : V), Sq H xs ∧ xs[i]? = some x,
    fun i H v H' => ∃ (T : Addr) (ob : Obj) (x : V), v = .ref T ∧ H T = none ∧ ob.dict = none ∧ H' = upd H T (.frz ob (.tup [.int (i : Nat), x])) ∧ ∀ xs, Sq H xs → xs[i]? = some x,
    fun i H => ∃ xs : List V, Sq H xs ∧ xs.length = i⟩
theorem turn_en {P : Program} {w : World} {elts : List Expr} {kk : Nat} {tpos : Pos} {a e it : Addr} {Sq : Hp → List V → Prop} {Si : Nat → Heap → Prop} {Sa : Array Value → Heap → Prop} (hne : e ≠ it)
    (hio : ∀ i h, Si i h → ∃ o, h.get? it = some o ∧ ∀ v, o.data ≠ .cell v) (hik : ∀ i h h', Si i h → (∀ o, h.get? it = some o → h'.get? it = some o) → Si i h')
    (hread : ∀ {X : Cx} {pins : List (Addr × Obj)} {σ : L2.St} {H : Hp} {s : Shared} {xs : List V}, X.K = K → Inv X pins σ H s → Sq H xs → ∃ its : List Value, Vals xs its ∧ Sa its.toArray s.heap ∧ ∀ ys, Sq H ys → ys = xs)
    (hD : ∀ (A : Around) (items : Array Value), A.handled = none → Draws P w A it [it, a] items.size (fun i v => items[i]? = some v) (fun i h => Si i h ∧ Sa items h)) (hea : ∀ its h o, Sa its h → h.get? e = some o → o.cls = .type "enumerate" → e ≠ a) :
    Turn P w K (.Tuple elts kk tpos) (enumIt Sq) [e, it] e (fun i h => (∃ old, IsEnum h e it ((i : Nat) : Int) old) ∧ Si i h) where
  mem := by simp
  obj := fun i h st b hb => by
    obtain ⟨⟨old, he⟩, hi⟩ := st
    have e' : b = e ∨ b = it := by simpa using hb
    rcases e' with z | z
    · rw [z]; exact ⟨_, he, fun v q => nomatch q⟩
    · rw [z]; exact hio i h hi
  keep := fun i h h' st k => let ⟨⟨old, he⟩, hi⟩ := st; ⟨⟨old, k e (by simp) _ he⟩, hik i h h' hi fun o q => k it (by simp) o q⟩
  item := by
    intro X hP hw hK hc i pins s σ H E I hf st hg
    subst hP hw
    obtain ⟨⟨old, he⟩, hit⟩ := st
    obtain ⟨xs, x, hq, hx⟩ := hg
    obtain ⟨its, rv, p, inj⟩ := hread hK I hq
    obtain ⟨u, hu, ru⟩ := rv.get hx
    have hel : e < s.heap.objs.size := Heap.lt_size he
    have hil : it < s.heap.objs.size := by obtain ⟨_, q, _⟩ := hio _ _ hit; exact Heap.lt_size q
    have hil2 : i < its.toArray.size := by have := (List.getElem?_eq_some_iff.mp hu).1; simpa using this
    have hea' := hea _ _ _ p he rfl
    refine wpAny_pyNext_enum_itemC (hD X.A.in1 its.toArray (I.ok.hd hc)) he ⟨hit, p⟩ hil2 hne (by simp [hne, hea']) fun x' h' tk hx' ho hit' hT hsz hk => ?_
    have ex : x' = u := by
      have h2 : its[i]? = some x' := by simpa using hx'
      rw [hu] at h2; exact (Option.some.inj h2).symm
    subst ex
    refine ⟨_, rfl, wpAny_letOwnedTupleGo_enum (s := { s with heap := h', toks := tk + 1 }) ho fun h'' he' sb => ?_⟩
    have there : h''.get? s.heap.objs.size = some { cls := .type "tuple", data := .seq #[.int i tk, x'] } := (sb.2 _ (Nat.ne_of_gt hel)).trans hT
    refine ⟨.ref s.heap.objs.size, _, I.turnedNew (t' := tk + 1) (ch := [e, it]) (fun b ob hb q => (sb.2 b (fun z => hb (by simp [z]))).trans (hk b ob (fun z => hb (by simp [z])) (fun z => hb (by simp [z])) q)) hf (Nat.le_refl _) (pair_ok (x := .int (i : Nat)) there ⟨tk, rfl⟩ ru), rfl,
      ⟨_, _, x, rfl, I.hok.fresh (Nat.le_refl _), rfl, rfl, fun ys hy => by rw [inj ys hy]; exact hx⟩, ⟨⟨x', ?_⟩, hik _ _ _ hit'.1 fun o q => (sb.2 it (Ne.symm hne)).trans q⟩, fp_pair hf fun c hc => ?_⟩
    · have e1 : ((i + 1 : Nat) : Int) = (i : Int) + 1 := by omega
      rw [e1]; exact he'
    · have e' : c = e ∨ c = it := by simpa using hc
      rcases e' with z | z
      · rw [z]; exact hel
      · rw [z]; exact hil
  done := by
    intro X hP hw hK hc i pins s σ H E I hf st hg
    subst hP hw
    obtain ⟨⟨old, he⟩, hit⟩ := st
    obtain ⟨xs, hq, hx⟩ := hg
    obtain ⟨its, rv, p, inj⟩ := hread hK I hq
    obtain ⟨f0, f1, f2, f3, f4, f5⟩ := hf it (by simp)
    have hl := rv.length
    have e1 : its.toArray.size = i := by simp only [List.size_toArray]; omega
    refine wpAny_pyNext_enum_endD (hD X.A.in1 its.toArray (I.ok.hd hc)) he (by rw [e1]; exact ⟨hit, p⟩) fun h' eb => ⟨rfl, I.turned (t' := s.toks) (fun b o hb q => eb b o hb q) f0 f1 f3 f4 f5⟩
  self := fun A i s Q E st h => let ⟨⟨_, he⟩, _⟩ := st; wpAny_pyIter_enum he h
def iEnX (K : PySem.W.Frag) (ta : TA) : TI := fun σ H R => ta σ H fun vs H1 => ∃ a xs, vs = [.ref a] ∧ ((SqL K H1 a xs ∧ R (enumIt fun H => SqL K H a) H1) ∨ (SqT K H1 a xs ∧ R (enumIt fun H => SqT K H a) H1))
theorem two_fp {pins : List (Addr × Obj)} {σ : L2.St} {H : Hp} {s : Shared} (I : Inv X pins σ H s) : ∀ c, c ∈ [s.heap.objs.size + 1, s.heap.objs.size] → FpOk X pins H c := fun c hc => by
  have hle : s.heap.objs.size ≤ c := by
    simp only [List.mem_cons, List.not_mem_nil, or_false] at hc
    omega
  exact I.fpOk hle (I.hok.fresh hle)
theorem pi_enX {e : Expr} {ta : TA} {p tpos : Pos} {elts : List Expr} {kk : Nat} (hg : Gl X "enumerate") (hm : X.mg "enumerate" = none) (ha : PA X [e] ta) (hs : starEach [e] X.env = [(false, eval e X.env)] := by rfl) :
    PI X (.Tuple elts kk tpos) (.Call (.Name "enumerate" p) [e] [] pos) (iEnX X.K ta) := by
  refine ⟨fun pins s σ H R I h => ?_⟩
  refine Call_ (ld_blt I hg hm PyProof.Rows.boot_enumerate (PyProof.Rows.callWith_type1 (thn (ha.run pos pins s σ H _ I h) fun us s1 ⟨vs, H1, I1, r1, q1⟩ => ?_) hs rfl))
  obtain ⟨a, xs, ex, q1⟩ := q1
  subst ex
  cases r1 with
  | cons r rr =>
    cases rr
    cases r
    rcases q1 with ⟨hq, q⟩ | ⟨hq, q⟩
    · obtain ⟨its, rv, p', hz⟩ := I1.list hq
      refine call_enumB (begins_list a its.toArray) p'.isList fun h' he hit hsz hk => wpAny_pyIter_enum he ?_
      refine ⟨s1.heap.objs.size + 1, [s1.heap.objs.size + 1, s1.heap.objs.size], _, _, H1, rfl, I1.kept (t' := s1.toks) hk,
        turn_en (a := a) (Si := fun i h => h.IsListIter s1.heap.objs.size a i) (Sa := fun its h => h.IsList a its) (Nat.succ_ne_self _) (fun i h x => ?_) (fun i h h' x k => x.at fun o e => k o e) (fun {X pins σ H s xs} hK I hq => ?_) (fun A items hh => Draws.list hh _ _ (Nat.ne_of_lt p'.lt) items) (fun its h o x e hc z => ?_), ⟨⟨.none, he⟩, ⟨_, hit, rfl, rfl⟩⟩, two_fp I1, q⟩
      · obtain ⟨o, ho, hc, hd⟩ := x
        exact ⟨o, ho, fun v q => by rw [hd] at q; cases q⟩
      · rw [← hK] at hq ⊢
        obtain ⟨its, rv, p', _⟩ := I.list hq
        exact ⟨its, rv, p'.isList, fun ys hy => I.list_inj hy hq⟩
      · obtain ⟨o2, e2, c2, _⟩ := x
        subst z
        have e3 := Option.some.inj (e.symm.trans e2)
        subst e3
        exact absurd (Value.type.inj (c2.symm.trans hc)) (by decide)
    · obtain ⟨its, rv, p', hz⟩ := I1.tuple hq
      have hlt : a < s1.heap.objs.size := by obtain ⟨_, g, _⟩ := id p'; exact Heap.lt_size g
      refine call_enumB (begins_tuple a its.toArray) p' fun h' he hit hsz hk => wpAny_pyIter_enum he ?_
      refine ⟨s1.heap.objs.size + 1, [s1.heap.objs.size + 1, s1.heap.objs.size], _, _, H1, rfl, I1.kept (t' := s1.toks) hk,
        turn_en (a := a) (Si := fun i h => h.IsTupleIter s1.heap.objs.size a i) (Sa := fun its h => h.IsTuple a its) (Nat.succ_ne_self _) (fun i h x => ?_) (fun i h h' x k => x.at fun o e => k o e) (fun {X pins σ H s xs} hK I hq => ?_) (fun A items hh => Draws.tuple hh _ _ (Nat.ne_of_lt hlt) items) (fun its h o x e hc z => ?_), ⟨⟨.none, he⟩, ⟨_, hit, rfl, rfl⟩⟩, two_fp I1, q⟩
      · obtain ⟨o, ho, hc, hd⟩ := x
        exact ⟨o, ho, fun v q => by rw [hd] at q; cases q⟩
      · rw [← hK] at hq ⊢
        obtain ⟨its, rv, p', _⟩ := I.tuple hq
        exact ⟨its, rv, p', fun ys hy => I.tuple_inj hy hq⟩
      · obtain ⟨o2, e2, c2, _⟩ := x
        subst z
        have e3 := Option.some.inj (e.symm.trans e2)
        subst e3
        exact absurd (Value.type.inj (c2.symm.trans hc)) (by decide)
/-- 0, x0; 1, x1; .. -/
def enP (l : List PV) : List PV := (List.range l.length).map fun i => .tup [.int (i : Nat), l.getD i .non]
theorem enP_len {l : List PV} : (enP l).length = l.length := by unfold enP; rw [List.length_map, List.length_range]
theorem enP_of {l : List PV} {i : Nat} {x : PV} (h : l[i]? = some x) : (enP l)[i]? = some (.tup [.int (i : Nat), x]) := by
  unfold enP
  rw [List.getElem?_map, List.getElem?_range (List.getElem?_eq_some_iff.mp h).1, Option.map_some, List.getD_eq_getElem?_getD, h]; rfl
theorem enP_get {l : List PV} {i : Nat} {p : PV} (h : (enP l)[i]? = some p) : ∃ x, l[i]? = some x ∧ p = .tup [.int (i : Nat), x] := by
  have hi : i < l.length := by have := (List.getElem?_eq_some_iff.mp h).1; rwa [enP_len] at this
  have e := enP_of (List.getElem?_eq_getElem hi)
  rw [h] at e
  exact ⟨_, List.getElem?_eq_getElem hi, Option.some.inj e⟩
theorem itr_el {H1 : Hp} {a : Addr} {l : List PV} : ItR K H1 (enumIt fun H => SqL K H a) (enP l) (fun M => rdL K M a l) where
  go := fun i H M t m k hi => by
    obtain ⟨vs, e, r⟩ := k.to m
    rw [enP_len] at hi
    have h1 : i < vs.length := by rw [← r.length]; omega
    exact ⟨vs, vs[i], e, by simp [h1]⟩
  yld := fun i H M x H' t m k hi y => by
    obtain ⟨T, ob, u, rfl, hT, hd, rfl, g1⟩ := y
    obtain ⟨vs, e, r⟩ := k.to m
    rw [enP_len] at hi
    obtain ⟨v1, q1, p1⟩ := r.get (List.getElem?_eq_getElem hi)
    have q3 := g1 vs e
    rw [q1] at q3; cases q3
    exact ⟨_, enP_of (List.getElem?_eq_getElem hi), pair_rep hT hd (.int _) p1⟩
  stop := fun H M t m k => by
    obtain ⟨vs, e, r⟩ := k.to m
    exact ⟨vs, e, by rw [enP_len, r.length]⟩
theorem itr_et {H1 : Hp} {a : Addr} {l : List PV} {vs : List V} (h : SqX K H1 a vs) (r : Reps K H1 l vs) : ItR K H1 (enumIt fun H => SqT K H a) (enP l) (fun _ => True) where
  go := fun i H M t m k hi => by
    rw [enP_len] at hi
    have h1 : i < vs.length := by rw [← r.length]; omega
    exact ⟨vs, vs[i], (t _ _ h).t, by simp [h1]⟩
  yld := fun i H M x H' t m k hi y => by
    obtain ⟨T, ob, u, rfl, hT, hd, rfl, g1⟩ := y
    rw [enP_len] at hi
    obtain ⟨v1, q1, p1⟩ := (r.mono t).get (List.getElem?_eq_getElem hi)
    have q3 := g1 vs (t _ _ h).t
    rw [q1] at q3; cases q3
    exact ⟨_, enP_of (List.getElem?_eq_getElem hi), pair_rep hT hd (.int _) p1⟩
  stop := fun H M t m k => ⟨vs, (t _ _ h).t, by rw [enP_len, r.length]⟩
@[reducible] def iEnP (K : Kf) (ta : TAp) : TIp := fun σ M R => ta σ M fun vs M1 => match vs with
  | [.tup l] => R (enP l) (fun _ => True) M1
  | [.ref a] => ∃ l, rdL K M1 a l ∧ R (enP l) (fun M => rdL K M a l) M1
  | _ => False
theorem pienumerate {e : Expr} {ta : TAp} {p tpos : Pos} {elts : List Expr} {kk : Nat} (hg : Gl X "enumerate") (hm : X.mg "enumerate" = none) (ha : PAp X H0 [e] ta) (hs : starEach [e] X.env = [(false, eval e X.env)] := by rfl) :
    PIp' X H0 (.Tuple elts kk tpos) (.Call (.Name "enumerate" p) [e] [] pos) (iEnP X.K ta) :=
  piW (pi_enX hg hm ha hs) fun σ H R ⟨σp, M, Rp, t, s, m, u, k⟩ => ⟨σp, M, _, t, s, m, u, fun vs H1 ps M1 t1 m1 rs u1 => by
    cases rs with
    | nil => exact u1.elim
    | cons r rr => cases rr with
      | cons _ _ => cases r <;> exact u1.elim
      | nil => cases r with
        | tup h q => exact ⟨_, _, rfl, .inr ⟨h.t, k _ _ _ _ _ t1 m1 (itr_et h q) u1⟩⟩
        | ref a =>
          obtain ⟨l, h1, u1⟩ := u1
          obtain ⟨vs, e, _⟩ := h1.to m1
          exact ⟨_, _, rfl, .inl ⟨e, k _ _ _ _ _ t1 m1 itr_el u1⟩⟩
        | _ => exact u1.elim⟩
end
end PL

set_option Elab.async false
set_option linter.all false
set_option maxRecDepth 100000
set_option maxHeartbeats 4000000
/-! PL28: a, b, .. = a list. -/
namespace PL
open PySem L2
section
variable {X : Cx} {H0 : Hp} {es : List Expr} {pos : Pos}
@[reducible] def gUnlP (K : Kf) (n : Nat) (g : TGsp) : TGp := fun v σ M Q => match v with | .ref a => ∃ l, rdL K M a l ∧ (l.length = n ∧ g l σ M Q) | _ => False
theorem pgunl {gs : TGsp} {j : Nat} {n : Nat} (hc : X.calm = true) (h : PGsp X H0 es gs) (hn : (assignEach es X.env).length = n := by rfl) (hst : (assignEach es X.env).findIdx? (·.1) = none := by rfl) : PGp X H0 (.Tuple es j pos) (gUnlP X.K n gs) :=
  pgW (pg_lst hc h hn hst) fun v σ H Q ⟨p, σp, M, Qp, t, r, s, m, u, k⟩ => by
    cases r with
    | ref a =>
      obtain ⟨l, h1, h2, h3⟩ := u
      obtain ⟨vs, q1, q2⟩ := h1.to m
      exact ⟨a, vs, rfl, q1, by rw [← q2.length]; exact h2, _, σp, M, Qp, t, q2, s, m, h3, k⟩
    | _ => exact u.elim
end
theorem CalleeR.neverz {P : Program} {w : World} {K : Kf} {mg : Str → Option Value} {base : Heap} {k : Nat} {x : Str} {st : Stmt} {N ps : List Str} (h : Here K mg x st ps) (S : FnScope N ps (defScope st)) : CalleeR (L2.CX P w) P w K mg base (k + 1) x ps (fun _ _ _ _ => False) :=
  okR_z h S (fun _ _ _ _ z => z.elim) fun f cdv A outer s H E Ep hr air tk own => ⟨_, pssdead, fun _ _ _ z => z.elim⟩
theorem CalleeR.nevern {P : Program} {w : World} {K : Kf} {mg : Str → Option Value} {base : Heap} {k : Nat} {x : Str} {st : Stmt} {N ps : List Str} (h : Here K mg x st ps) (S : FnScope N ps (defScope st)) : CalleeR (L2N.CX P w) P w K mg base (k + 1) x ps (fun _ _ _ _ => False) :=
  okR_n h S (fun _ _ _ _ z => z.elim) fun f cdv A outer s H E Ep hr air own => ⟨_, pssdead, fun _ _ _ z => z.elim⟩
end PL

set_option Elab.async false
set_option linter.all false
set_option maxRecDepth 100000
set_option maxHeartbeats 4000000
/-! PL29: a tuple among the items of a tuple. -/
namespace PL
open PySem PySem.Spec L2 PyProof.Rows
section
variable {K : Kf} {X : Cx} {H0 : Hp} {pos : Pos}
def rInFT (K : Kf) (neg : Bool) : R2 := fun x y H Q => ∃ d ds, Dp K H x d ∧ Dp K H y (.tuple ds) ∧ (d.plain = true ∧ d.depth ≤ 40) ∧ PyData.plainAll ds = true ∧ Q (.bl (if neg then !(ds.any fun z => PyData.eqv z d) else ds.any fun z => PyData.eqv z d)) H
theorem op_inFT (hu : X.A.units + 64 < cLine) : OpR X (compareOp .In) (rInFT X.K false) := fun pins s σ H x y v u Q I rx ry ⟨d, ds, hd, he, pd, pe, q⟩ => by
  obtain ⟨as, r1⟩ := Dp.reads I d x v hd rx
  obtain ⟨bs, r2⟩ := Dp.reads I (.tuple ds) y u he ry
  have hm := Nat.min_le_right (PyData.depthAll ds) d.depth
  exact SeqAt.in_tuple_data r2 r1 pe pd.1 (by have := pd.2; omega) ⟨.bl _, H, I, rfl, q⟩
theorem op_notInFT (hu : X.A.units + 64 < cLine) : OpR X (compareOp .NotIn) (rInFT X.K true) := fun pins s σ H x y v u Q I rx ry ⟨d, ds, hd, he, pd, pe, q⟩ => by
  obtain ⟨as, r1⟩ := Dp.reads I d x v hd rx
  obtain ⟨bs, r2⟩ := Dp.reads I (.tuple ds) y u he ry
  have hm := Nat.min_le_right (PyData.depthAll ds) d.depth
  exact SeqAt.notIn_tuple_data r2 r1 pe pd.1 (by have := pd.2; omega) ⟨.bl _, H, I, rfl, q⟩
def inDTP (K : Kf) (neg : Bool) : R2p := fun x y M Q => match y with
  | .tup l => l.length ≤ 16777216 ∧ TxtD 40 x ∧ (∀ z ∈ l, TxtD 40 z) ∧ ∀ b, (b = true ↔ x ∈ l) → Q (.bl (if neg then !b else b)) M
  | _ => False
theorem inDT_sim {neg : Bool} : SimR K (rInFT K neg) (inDTP K neg) := fun x y H px py M Q Qp rx ry m u k => by
  cases py with
  | tup l =>
    obtain ⟨h, hx, hl, q⟩ := u
    have ht : TxtD 41 (.tup l) := .tup h hl
    exact ⟨toD px, toDs l, hx.pure.dp.to m rx, ht.pure.dp.to m ry, ⟨hx.pure.plain, hx.pure.depth⟩, plain_all fun z hz => (hl z hz).pure, k _ _ _ _ (Tk.refl _ _) m (.bl _) (q _ (any_txt hx hl))⟩
  | _ => exact u.elim
theorem opInDT (hu : X.A.units + 64 < cLine) (hK : X.K = K := by rfl) : OpP X (compareOp .In) (inDTP K false) := hK ▸ ⟨_, op_inFT hu, inDT_sim⟩
theorem opNotInDT (hu : X.A.units + 64 < cLine) (hK : X.K = K := by rfl) : OpP X (compareOp .NotIn) (inDTP K true) := hK ▸ ⟨_, op_notInFT hu, inDT_sim⟩
end
end PL

set_option Elab.async false
set_option linter.all false
set_option maxRecDepth 100000
set_option maxHeartbeats 4000000
/-! PL30: match on a tuple: case [text, name, ..]; case _. -/
namespace L2
open PySem PySem.Spec PyProof.Rows
/-- what the cases do with the subject's value -/
abbrev TMc := V → TS
structure PMs (X : Cx) (cs : List MatchCase) (t : TMc) : Prop where
  run : ∀ (first : Bool) (pins : List (Addr × Obj)) (s : Shared) (σ : St) (H : Hp) (D : Ends) (v : V) (u : Value), Inv X pins σ H s → RelV v u → t v D σ H → wpAny (model X.prog X.w) X.A (matchCases cs X.env u first) (SP X pins D) X.xe s
theorem unpackItems_tup {prog : Program} {w : World} {A : Around} {E : Value → Shared → Prop} {s : Shared} {t : Addr} {items : List Value} {n : Nat} {Q : List Value → Shared → Prop} (hh : A.handled = none) (ht : IsTup s.heap t items.toArray) (hn : n = items.length)
    (hQ : ∀ h', Heap.ExtBut s.heap.objs.size s.heap h' → Q items { s with heap := h' }) : wpAny (model prog w) A (unpackItems (.ref t) n none) Q E s := by
  have e : n = items.toArray.size := by simpa using hn
  rw [e]
  exact unpackItems_tuple hh ht fun h' q => by simpa using hQ h' q
section
variable {X : Cx} {te : TE} {tb : TS} {tr : TMc}
theorem ps_match {e : Expr} {cs : List MatchCase} {pos : Pos} (he : PE X e te) (h : PMs X cs tr) : PS X (.Match e cs pos) (fun D σ H => te σ H fun v H1 => tr v D σ H1) := by
  refine ⟨fun pins s σ H D I q => ?_⟩
  exact wpAny_Match (thn (he.run pins s σ H _ I q) fun v s1 ⟨x, H1, I1, r1, q1⟩ => h.run true pins s1 σ H1 D x v I1 r1 q1)
theorem pms_wild {body : List Stmt} {rest : List MatchCase} {p : Pos} (hb : PSs X body tb) : PMs X (⟨.MatchAs none none p, none, body⟩ :: rest) (fun _ => tb) := by
  refine ⟨fun first pins s σ H D v u I r q => ?_⟩
  exact wpAny_matchCases_cons (wpAny_matchPattern_Capture (wpAny_assignInOrder_none (hb.run pins s σ H D I q)))
/-- the names that a sequence pattern binds (`_` binds none: a slot behind all others) -/
inductive Caps (X : Cx) : List Pattern → List (Option Str) → List Nat → Prop
  | nil : Caps X [] [] []
  | cons {ps ns is} {x : Str} {i : Nat} {p : Pos} (hN : X.N.Nodup) (hi : X.N[i]? = some x) (hx : Loc X.env.scope x) (hf : X.fn x = true ∨ X.env.scope.names.lookup x = some .local) (t : Caps X ps ns is) : Caps X (.MatchAs none (some x) p :: ps) (some x :: ns) (i :: is)
  | wild {ps ns is} {p : Pos} (t : Caps X ps ns is) : Caps X (.MatchAs none none p :: ps) (none :: ns) (1000000 :: is)
def setAll : St → List Nat → List V → St
  | σ, i :: is, v :: vs => setAll (if i = 1000000 then σ else σ.set i (some v)) is vs
  | σ, _, _ => σ
def bnds : List (Option Str) → List Value → List (Str × Value)
  | some x :: ns, u :: us => (x, u) :: bnds ns us
  | none :: ns, _ :: us => bnds ns us
  | _, _ => []
theorem Caps.len {ps ns is} (h : Caps X ps ns is) : ps.length = is.length := by
  induction h with
  | nil => rfl
  | cons _ _ _ _ _ ih => simp [ih]
  | wild _ ih => simp [ih]
theorem Caps.star {ps ns is} (h : Caps X ps ns is) : ps.findIdx? (·.isStar) = none := by
  induction h with
  | nil => rfl
  | cons _ _ _ _ _ ih => rw [List.findIdx?_cons, ih]; rfl
  | wild _ ih => rw [List.findIdx?_cons, ih]; rfl
theorem Caps.each {M : Model} {A : Around} {E : Value → Shared → Prop} {env : Env} {s : Shared} {ps ns is} (h : Caps X ps ns is) : ∀ {us : List Value} {Q : Option (List (Str × Value)) → Shared → Prop}, us.length = ps.length → Q (some (bnds ns us)) s → wpAny M A (matchEach ps env us) Q E s := by
  induction h with
  | nil =>
    intro us Q hl q
    cases us with
    | nil => exact wpAny_matchEach_nil q
    | cons _ _ => cases hl
  | cons hN hi hx hf t ih =>
    intro us Q hl q
    cases us with
    | nil => cases hl
    | cons u us => exact wpAny_matchEach_cons (wpAny_matchPattern_Capture (ih (by simpa using hl) q))
  | wild t ih =>
    intro us Q hl q
    cases us with
    | nil => cases hl
    | cons u us => exact wpAny_matchEach_cons (wpAny_matchPattern_Capture (ih (by simpa using hl) q))
theorem Caps.bind {pins : List (Addr × Obj)} {H : Hp} {ps ns is} (hw : X.N.length ≤ 1000000) (h : Caps X ps ns is) : ∀ {s : Shared} {σ : St} {vs : List V} {us : List Value} {Q : Unit → Shared → Prop}, Inv X pins σ H s → Vals vs us → us.length = ps.length → (∀ s', Inv X pins (setAll σ is vs) H s' → Q () s') →
    wpAny (model X.prog X.w) X.A (assignInOrder ((bnds ns us).map fun (n, _) => bindName X.env n) ((bnds ns us).map (·.2))) Q X.xe s := by
  induction h with
  | nil =>
    intro s σ vs us Q I r hl q
    exact wpAny_assignInOrder_none (q s (by simpa [setAll] using I))
  | @cons ps ns is x i p hN hi hx hf t ih =>
    intro s σ vs us Q I r hl q
    cases r with
    | nil => cases hl
    | cons r rr =>
      have hne : ¬ i = 1000000 := fun e => by rw [e, List.getElem?_eq_none hw] at hi; cases hi
      exact wpAny_assignInOrder_more (wpAny_bindName (store_ok I hN hi hx r (fun s' I' => ih I' rr (by simpa using hl) (by rw [setAll, if_neg hne] at q; exact q)) hf))
  | wild t ih =>
    intro s σ vs us Q I r hl q
    cases r with
    | nil => cases hl
    | cons r rr => exact ih I rr (by simpa using hl) (by rw [setAll, if_pos rfl] at q; exact q)
def tSeqC (K : PySem.W.Frag) (c : Str) (is : List Nat) (tb : TS) (tr : TMc) : TMc := fun v D σ H => ∃ a xs, v = .ref a ∧ SqT K H a xs ∧
  (xs.length = is.length + 1 → ∃ x ys, xs = .str x :: ys ∧ (x = c → tb D (setAll σ is ys) H) ∧ (x ≠ c → tr v D σ H)) ∧ (xs.length ≠ is.length + 1 → tr v D σ H)
theorem pms_seq {c : Str} {k : Nat} {p1 p2 p3 : Pos} {ps : List Pattern} {ns : List (Option Str)} {is : List Nat} {body : List Stmt} {rest : List MatchCase} (hc : X.calm = true) (hw : X.N.length ≤ 1000000) (h : Caps X ps ns is) (hb : PSs X body tb) (hr : PMs X rest tr) :
    PMs X (⟨.MatchSequence (.MatchValue (.Constant (.str c) k p1) p2 :: ps) p3, none, body⟩ :: rest) (tSeqC X.K c is tb tr) := by
  refine ⟨fun first pins s σ H D v u I r q => ?_⟩
  obtain ⟨a, xs, e1, hq, qy, qn⟩ := q
  subst e1
  cases r
  obtain ⟨its, rv, ht, hz⟩ := I.tuple hq
  have hl : its.length = xs.length := rv.length.symm
  have hfit : ((its.toArray.size : Nat) : Int) < 2 ^ 63 := by
    have : its.toArray.size = its.length := by simp
    have := (show sizeLine = 16777216 by decide)
    omega
  refine wpAny_matchCases_cons ?_
  by_cases hn : xs.length = is.length + 1
  · obtain ⟨x, ys, e2, y1, y2⟩ := qy hn
    subst e2
    refine matchSeq_tuple_hit ht hfit (by simp [h.len, hl, hn]) ?_ (by rw [List.findIdx?_cons, h.star]; rfl) (by rfl)
    refine unpackItems_tup (I.ok.hd hc) ht (by simp [h.len, hl, hn]) fun h' hx => ?_
    have I1 : Inv X pins σ H { s with heap := h', toks := s.toks + 1 + 1 } := I.kept fun b o e => hx b o (Nat.ne_of_lt (Heap.lt_size e)) e
    cases rv with
    | cons r rr =>
      obtain ⟨t, e3⟩ := r
      subst e3
      have hl2 := rr.length
      simp only [List.length_cons] at hn hl
      refine wpAny_matchEach_cons (wpAny_matchPattern_Value (Calls.Constant_str (eq_str (wpAny_truthy_bool ?_))))
      by_cases e : x = c
      · subst e
        simp only [beq_self_eq_true, if_true]
        refine h.each (by rw [h.len]; omega) ?_
        refine h.bind hw (I1.tok _) rr (by rw [h.len]; omega) fun s' I2 => hb.run pins s' _ H D I2 (y1 rfl)
      · rw [beq_eq_false_iff_ne.mpr e]
        exact hr.run false pins _ σ H D (.ref a) (.ref a) (I1.tok _) rfl (y2 e)
  · exact matchSeq_tuple_miss ht hfit (by simp [h.len, hl, hn]) (hr.run false pins _ σ H D (.ref a) (.ref a) (I.tok _) rfl (qn hn)) (by rw [List.findIdx?_cons, h.star]; rfl) (by rfl)
end
end L2
namespace PL
open PySem L2
section
variable {X : Cx} {H0 : Hp} {te : TEp} {tb : TSp} {tr : PV → TSp}
abbrev TMp := PV → TSp
def concM (K : Kf) (H0 : Hp) (t : TMp) : TMc := fun v D σ H => ∃ p σp M Dp, Tk K H0 H ∧ Rep K H p v ∧ RelS K H σp σ ∧ RelM K H M ∧ t p Dp σp M ∧ EndsRel K H D Dp
abbrev PMp (X : Cx) (H0 : Hp) (cs : List MatchCase) (t : TMp) : Prop := PMs X cs (concM X.K H0 t)
theorem pmW {cs : List MatchCase} {t t' : TMc} (h : PMs X cs t) (w : ∀ v D σ H, t' v D σ H → t v D σ H) : PMs X cs t' := ⟨fun f pins s σ H D v u I r q => h.run f pins s σ H D v u I r (w _ _ _ _ q)⟩
@[reducible] def tMatch (te : TEp) (t : TMp) : TSp := fun D σ M => te σ M fun v M1 => t v D σ M1
theorem psmatch {e : Expr} {cs : List MatchCase} {pos : Pos} {t : TMp} (he : PEp X H0 e te) (h : PMp X H0 cs t) : PSp' X H0 (.Match e cs pos) (tMatch te t) :=
  psW (ps_match he h) fun D σ H ⟨σp, M, Dp, t, s, m, u, k⟩ => ⟨σp, M, _, t, s, m, u, fun v H1 p M1 t1 m1 r u1 => ⟨p, σp, M1, Dp, t.trans t1, r, s.mono t1, m1, u1, k.mono t1⟩⟩
def tWild (tb : TSp) : TMp := fun _ => tb
theorem pmwild {body : List Stmt} {rest : List MatchCase} {p : Pos} (hb : PSsp X H0 body tb) : PMp X H0 (⟨.MatchAs none none p, none, body⟩ :: rest) (tWild tb) :=
  pmW (pms_wild hb) fun v D σ H ⟨p, σp, M, Dp, t, r, s, m, u, k⟩ => ⟨σp, M, Dp, t, s, m, u, k⟩
def setAllP : PSt → List Nat → List PV → PSt
  | σ, i :: is, v :: vs => setAllP (if i = 1000000 then σ else σ.set i (some v)) is vs
  | σ, _, _ => σ
theorem RelS.setAll {K : Kf} {H : Hp} : ∀ {ps : List PV} {vs : List V} {is : List Nat} {σ τ}, Reps K H ps vs → RelS K H σ τ → RelS K H (setAllP σ is ps) (L2.setAll τ is vs) := by
  intro ps vs is
  induction is generalizing ps vs with
  | nil => intro σ τ r s; cases r <;> exact s
  | cons i is ih => intro σ τ r s; cases r with
    | nil => exact s
    | cons r rr =>
      by_cases e : i = 1000000
      · rw [setAllP, L2.setAll, if_pos e, if_pos e]; exact ih rr s
      · rw [setAllP, L2.setAll, if_neg e, if_neg e]; exact ih rr (s.set r i)
def tCase (c : Str) (is : List Nat) (tb : TSp) (tr : TMp) : TMp := fun v D σ M => ∃ l, v = .tup l ∧ (l.length = is.length + 1 → ∃ x ys, l = .str x :: ys ∧ (x = c → tb D (setAllP σ is ys) M) ∧ (x ≠ c → tr v D σ M)) ∧ (l.length ≠ is.length + 1 → tr v D σ M)
theorem pmcase {c : Str} {k : Nat} {p1 p2 p3 : Pos} {ps : List Pattern} {ns : List (Option Str)} {is : List Nat} {body : List Stmt} {rest : List MatchCase} (hc : X.calm = true) (hw : X.N.length ≤ 1000000) (h : Caps X ps ns is) (hb : PSsp X H0 body tb) (hr : PMp X H0 rest tr) :
    PMp X H0 (⟨.MatchSequence (.MatchValue (.Constant (.str c) k p1) p2 :: ps) p3, none, body⟩ :: rest) (tCase c is tb tr) :=
  pmW (pms_seq hc hw h hb hr) fun v D σ H ⟨p, σp, M, Dp, t, r, s, m, u, k⟩ => by
    obtain ⟨l, e, u1, u2⟩ := u
    subst e
    cases r with
    | tup h r => 
      refine ⟨_, _, rfl, h.t, fun hl => ?_, fun hl => ⟨_, σp, M, Dp, t, .tup h r, s, m, u2 (by rw [r.length]; exact hl), k⟩⟩
      obtain ⟨x, ys, e2, y1, y2⟩ := u1 (by rw [r.length]; exact hl)
      subst e2
      cases r with
      | cons r rr => cases r with
        | str => exact ⟨_, _, rfl, fun e => ⟨_, M, Dp, t, s.setAll rr, m, y1 e, k⟩, fun e => ⟨_, σp, M, Dp, t, .tup h (.cons (.str _) rr), s, m, y2 e, k⟩⟩
    | _ => all_goals exact absurd ‹_› (by simp)
theorem case_len {c : Str} {is : List Nat} {l : List PV} {D : PEnds} {σ : PSt} {M : PHp} (h : l.length ≠ is.length + 1) (q : tr (.tup l) D σ M) : tCase c is tb tr (.tup l) D σ M := ⟨l, rfl, fun e => absurd e h, fun _ => q⟩
theorem case_no {c x : Str} {is : List Nat} {l : List PV} {D : PEnds} {σ : PSt} {M : PHp} (h : x ≠ c) (q : tr (.tup (.str x :: l)) D σ M) : tCase c is tb tr (.tup (.str x :: l)) D σ M := ⟨_, rfl, fun _ => ⟨x, l, rfl, fun e => absurd e h, fun _ => q⟩, fun _ => q⟩
theorem case_yes {c : Str} {is : List Nat} {l : List PV} {D : PEnds} {σ : PSt} {M : PHp} (h : l.length = is.length) (q : tb D (setAllP σ is l) M) : tCase c is tb tr (.tup (.str c :: l)) D σ M := ⟨_, rfl, fun _ => ⟨c, l, rfl, fun _ => q, fun e => absurd rfl e⟩, fun e => absurd (by simp [h]) e⟩
end
end PL

set_option Elab.async false
set_option linter.all false
set_option maxRecDepth 100000
set_option maxHeartbeats 4000000
/-! PL31: try .. except X: a suite. -/
namespace PL
open PySem L2
section
variable {X : Cx} {H0 : Hp}
@[reducible] def tTryOn (K : Kf) (c : Value) (tb : PWX → TSp) (ts : TSp) : TSp := fun D σ M =>
  tb (fun cls d σ' M' => PySem.W.exmOne K cls c = some true ∧ ts D σ' M') D σ M
theorem pstryon {x : Str} {c : Value} {body suite : List Stmt} {b₀ : Stmt} {np pos pos' : Pos} {tb : PWX → TSp} {ts : TSp} (hk : X.calm = true) (hs : X.stack = X.env :: X.outer) (hf : X.env.frame = some X.env.locals)
    (hc : Names X x c)
    (hb : ∀ (H1 : Hp) (pw : PWX) (pn : List (Addr × Obj)) (xe : Value → Shared → Prop), Air (L2.CX X.prog X.w) (X.tr pn xe) H1 pw → PassesOwn (model X.prog X.w) X.A X.env xe → PSsp (X.tr pn xe) H1 body (tb pw))
    (hsu : ∀ (a : Addr) (oe : Obj) (cls : Value) (d : Option Addr) (pn : List (Addr × Obj)), Zc cls d oe → (∃ vs, oe.data = .fields vs) → PSsp (X.suite a ((a, oe) :: pn)) H0 (b₀ :: suite) ts) :
    PSp' X H0 (.Try body [.ExceptHandler (some (.Name x np)) none (b₀ :: suite) pos'] [] [] pos) (tTryOn X.K c tb ts) := by
  refine psW (L2.ps_try_only (tb := fun W D σ H => ∃ H1 pw, (∀ c d σ H, concW X.K H1 pw c d σ H → W c d σ H) ∧ concS X.K H1 (tb pw) D σ H) (ts := fun a cls d => concS X.K H0 ts) (Wout := fun _ _ _ _ => False) hs hf hc (fun u s' x => ?_) (fun W pn xe tk po => ⟨fun pins s σ H D I h => ?_⟩) (fun a oe cls d pn hz hv => hsu a oe cls d pn hz hv)) fun D σ H ⟨σp, M, Dp, t, s, m, u, k⟩ => ?_
  · obtain ⟨a, B, sI, pins, σ, H, cls, d, h⟩ := x
    exact h.2.2.2.2.2.2.2.2.elim
  · obtain ⟨H1, pw, imp, h⟩ := h
    exact (hb H1 pw pn xe (Air.z (X := X.tr pn xe) hk (tk.imp imp)) po).run pins s σ H D I h
  · refine ⟨H, _, ?_, σp, M, Dp, Tk.refl _ _, s, m, u, k⟩
    intro cls d σ1 H1 ⟨σp1, M1, t1, s1, m1, q1, q2⟩
    exact ⟨true, q1, fun _ a na => ⟨σp1, M1, Dp, t.trans t1, s1, m1, q2, k.mono t1⟩, fun z => nomatch z⟩
end
end PL
namespace PL
open PySem L2
theorem takes_none {X : Cx} {K : Kf} {H0 : Hp} : L2.Takes X (concW K H0 fun _ _ _ _ => False) := fun u s' x => by
  obtain ⟨a, B, sI, pins, σ, H, cls, d, h⟩ := x
  obtain ⟨_, _, _, _, _, q⟩ := h.2.2.2.2.2.2.2.2
  exact q.elim
/-- nothing is raised -/
theorem Air.none {X : Cx} {H0 : Hp} (hc : X.calm = true) : Air (L2.CX X.prog X.w) X H0 fun _ _ _ _ => False := Air.z hc takes_none
theorem pcallR0 {X : Cx} {H0 : Hp} {pos : Pos} {k : Nat} {x : Str} {ps : List Str} {psp : PSpec} {p : Pos} {e : Expr} {es : List Expr} {ta : TAp} (C : CalleeR (L2.CX X.prog X.w) X.prog X.w X.K X.mg X.base k x ps psp) (hc : X.calm = true) (hr : Room k X.A) (ha : PAp X H0 (e :: es) ta) (hg : Gl X x := by rfl) (hd : (x == ("__debug__" : Str)) = false := by decide)
    (he : starEach (e :: es) X.env = (false, eval e X.env) :: starEach es X.env := by rfl) (hpl : (backTo pos (starEach es X.env)).any (·.1) = false := by rfl) : PEp X H0 (.Call (.Name x p) (e :: es) [] pos) (tCallR psp (fun _ _ _ _ => False) ta) :=
  pcallR C (Air.none hc) hr ha hg hd he hpl
end PL

set_option Elab.async false
set_option linter.all false
set_option maxRecDepth 100000
set_option maxHeartbeats 4000000
/-! PL32: xs[::-1] of a list. -/
namespace PL
open PySem L2
section
variable {X : Cx} {H0 : Hp} {K : Kf} {H : Hp}
theorem Reps.reverse : ∀ {ps : List PV} {vs : List V}, Reps K H ps vs → Reps K H ps.reverse vs.reverse
  | _, _, .nil => .nil
  | _, _, .cons r t => by rw [List.reverse_cons, List.reverse_cons]; exact (Reps.reverse t).snoc r
@[reducible] def tRevP (K : Kf) (te : TEp) : TEp := fun σ M Q => te σ M fun x M1 => match x with
  | .ref a => ∃ l, rdL K M1 a l ∧ ∀ p, M1 p = none → Q (.ref p) (updM M1 p (.lst l.reverse))
  | _ => False
theorem prevL {e : Expr} {te : TEp} {k : Nat} {p1 p2 p3 pos : Pos} (he : PEp X H0 e te) (hK : X.K = K := by rfl) : PEp X H0 (.Subscript e (.Slice none none (some (.UnaryOp .USub (.Constant (.int 1) k p1) p2)) p3) pos) (tRevP K te) := by
  subst hK
  refine peW (pe_revL he) fun σ H Q ⟨σp, M, Qp, t, s, m, u, k⟩ => ⟨σp, M, _, t, s, m, u, fun x H1 px M1 t1 m1 rx u1 => ?_⟩
  have kk : Kont X.K H1 Q Qp := fun v H4 p M4 t4 => k v H4 p M4 (t1.trans t4)
  cases rx with
  | ref a =>
    obtain ⟨l, hl, q⟩ := u1
    obtain ⟨vs, e, r⟩ := hl.to m1
    exact ⟨_, _, rfl, e, fun p hp => new_lst m1 hp r.reverse q kk⟩
  | _ => exact u1.elim
end
end PL

set_option Elab.async false
set_option linter.all false
set_option maxRecDepth 100000
set_option maxHeartbeats 4000000
namespace PL
open PySem L2
open Builtin.Int (intBits)
def topS (i : Nat) : Stmt := PySem.Challenge.pw_toldotherwise_k51_game_in_place_of_outco.main.body.getD i (.Pass ⟨0, 0, 0, 0⟩)
abbrev s__wall : Stmt := topS 1
theorem sc__wall : FnScope ["k"] ["k"] (defScope s__wall) := ⟨rfl, rfl, rfl, by decide +kernel, rfl, by decide +kernel, by decide +kernel⟩
abbrev s_reduced : Stmt := topS 9
theorem sc_reduced : FnScope ["weights", "common", "weight"] ["weights"] (defScope s_reduced) := ⟨rfl, rfl, rfl, by decide +kernel, rfl, by decide +kernel, by decide +kernel⟩
abbrev s_is_name : Stmt := topS 14
theorem sc_is_name : FnScope ["word", "char"] ["word"] (defScope s_is_name) := ⟨rfl, rfl, rfl, by decide +kernel, rfl, by decide +kernel, by decide +kernel⟩
abbrev s_row_of : Stmt := topS 17
theorem sc_row_of : FnScope ["game", "name", "row"] ["game", "name"] (defScope s_row_of) := ⟨rfl, rfl, rfl, by decide +kernel, rfl, by decide +kernel, by decide +kernel⟩
abbrev s_move_count : Stmt := topS 18
theorem sc_move_count : FnScope ["game", "name"] ["game", "name"] (defScope s_move_count) := ⟨rfl, rfl, rfl, by decide +kernel, rfl, by decide +kernel, by decide +kernel⟩
abbrev s_with_row : Stmt := topS 19
theorem sc_with_row : FnScope ["sets", "row"] ["sets", "row"] (defScope s_with_row) := ⟨rfl, rfl, rfl, by decide +kernel, rfl, by decide +kernel, by decide +kernel⟩
abbrev s_without_row : Stmt := topS 20
theorem sc_without_row : FnScope ["sets", "name", "row"] ["sets", "name"] (defScope s_without_row) := ⟨rfl, rfl, rfl, by decide +kernel, rfl, by decide +kernel, by decide +kernel⟩
abbrev s_fresh_names : Stmt := topS 21
theorem sc_fresh_names : FnScope ["game", "count", "declared", "found", "number", "name", "row"] ["game", "count"] (defScope s_fresh_names) := ⟨rfl, rfl, rfl, by decide +kernel, rfl, by decide +kernel, by decide +kernel⟩
abbrev s_even_weights : Stmt := topS 22
theorem sc_even_weights : FnScope ["count"] ["count"] (defScope s_even_weights) := ⟨rfl, rfl, rfl, by decide +kernel, rfl, by decide +kernel, by decide +kernel⟩
abbrev s_are_weights : Stmt := topS 23
theorem sc_are_weights : FnScope ["owner", "weights", "weight"] ["owner", "weights"] (defScope s_are_weights) := ⟨rfl, rfl, rfl, by decide +kernel, rfl, by decide +kernel, by decide +kernel⟩
abbrev s_node_at : Stmt := topS 25
theorem sc_node_at : FnScope ["tree", "path", "node", "move"] ["tree", "path"] (defScope s_node_at) := ⟨rfl, rfl, rfl, by decide +kernel, rfl, by decide +kernel, by decide +kernel⟩
abbrev s_replaced : Stmt := topS 26
theorem sc_replaced : FnScope ["tree", "path", "node", "move", "children", "lower"] ["tree", "path", "node"] (defScope s_replaced) := ⟨rfl, rfl, rfl, by decide +kernel, rfl, by decide +kernel, by decide +kernel⟩
abbrev s_above : Stmt := topS 27
theorem sc_above : FnScope ["tree", "path", "pairs", "node", "move"] ["tree", "path"] (defScope s_above) := ⟨rfl, rfl, rfl, by decide +kernel, rfl, by decide +kernel, by decide +kernel⟩
abbrev s_sets_in : Stmt := topS 28
theorem sc_sets_in : FnScope ["tree", "found", "child", "name"] ["tree"] (defScope s_sets_in) := ⟨rfl, rfl, rfl, by decide +kernel, rfl, by decide +kernel, by decide +kernel⟩
abbrev s_is_new_name : Stmt := topS 30
theorem sc_is_new_name : FnScope ["game", "name"] ["game", "name"] (defScope s_is_new_name) := ⟨rfl, rfl, rfl, by decide +kernel, rfl, by decide +kernel, by decide +kernel⟩
abbrev s_added : Stmt := topS 31
theorem sc_added : FnScope ["game", "name", "owner", "weights"] ["game", "name", "owner", "weights"] (defScope s_added) := ⟨rfl, rfl, rfl, by decide +kernel, rfl, by decide +kernel, by decide +kernel⟩
abbrev s_dropped : Stmt := topS 32
theorem sc_dropped : FnScope ["game", "name"] ["game", "name"] (defScope s_dropped) := ⟨rfl, rfl, rfl, by decide +kernel, rfl, by decide +kernel, by decide +kernel⟩
abbrev s_relabelled : Stmt := topS 33
theorem sc_relabelled : FnScope ["tree", "name", "new", "children", "child"] ["tree", "name", "new"] (defScope s_relabelled) := ⟨rfl, rfl, rfl, by decide +kernel, rfl, by decide +kernel, by decide +kernel⟩
abbrev s_renamed : Stmt := topS 34
theorem sc_renamed : FnScope ["game", "name", "new", "row", "sets"] ["game", "name", "new"] (defScope s_renamed) := ⟨rfl, rfl, rfl, by decide +kernel, rfl, by decide +kernel, by decide +kernel⟩
abbrev s__ordered_nodes : Stmt := topS 35
theorem sc__ordered_nodes : FnScope ["tree", "name", "order", "children", "child", "move"] ["tree", "name", "order"] (defScope s__ordered_nodes) := ⟨rfl, rfl, rfl, by decide +kernel, rfl, by decide +kernel, by decide +kernel⟩
abbrev s_reordered : Stmt := topS 36
theorem sc_reordered : FnScope ["game", "name", "order", "row", "weights", "sets", "move"] ["game", "name", "order"] (defScope s_reordered) := ⟨rfl, rfl, rfl, by decide +kernel, rfl, by decide +kernel, by decide +kernel⟩
abbrev s__cut_nodes : Stmt := topS 38
theorem sc__cut_nodes : FnScope ["node", "upper", "name", "names", "taken", "label", "children", "move", "child"] ["node", "upper", "name", "names", "taken"] (defScope s__cut_nodes) := ⟨rfl, rfl, rfl, by decide +kernel, rfl, by decide +kernel, by decide +kernel⟩
abbrev s_cut_up : Stmt := topS 39
theorem sc_cut_up : FnScope ["game", "upper", "name", "names", "upper_row", "row", "index", "new", "tree", "sets"] ["game", "upper", "name", "names"] (defScope s_cut_up) := ⟨rfl, rfl, rfl, by decide +kernel, rfl, by decide +kernel, by decide +kernel⟩
abbrev s__glued_nodes : Stmt := topS 40
theorem sc__glued_nodes : FnScope ["node", "upper", "names", "name", "taken", "label", "children", "move", "child"] ["node", "upper", "names", "name", "taken"] (defScope s__glued_nodes) := ⟨rfl, rfl, rfl, by decide +kernel, rfl, by decide +kernel, by decide +kernel⟩
abbrev s_glued : Stmt := topS 41
theorem sc_glued : FnScope ["game", "upper", "names", "name", "upper_row", "rows", "index", "row", "tree", "sets", "part"] ["game", "upper", "names", "name"] (defScope s_glued) := ⟨rfl, rfl, rfl, by decide +kernel, rfl, by decide +kernel, by decide +kernel⟩
abbrev s__allowed_weights : Stmt := topS 43
theorem sc__allowed_weights : FnScope ["owner", "weights"] ["owner", "weights"] (defScope s__allowed_weights) := ⟨rfl, rfl, rfl, by decide +kernel, rfl, by decide +kernel, by decide +kernel⟩
abbrev s__stand_together : Stmt := topS 44
theorem sc__stand_together : FnScope ["node", "name", "move", "lower", "is_place", "index", "child"] ["node", "name", "move", "lower", "is_place"] (defScope s__stand_together) := ⟨rfl, rfl, rfl, by decide +kernel, rfl, by decide +kernel, by decide +kernel⟩
abbrev s__joined_nodes : Stmt := topS 45
theorem sc__joined_nodes : FnScope ["node", "name", "move", "children", "child"] ["node", "name", "move"] (defScope s__joined_nodes) := ⟨rfl, rfl, rfl, by decide +kernel, rfl, by decide +kernel, by decide +kernel⟩
abbrev s_joined : Stmt := topS 46
theorem sc_joined : FnScope ["game", "name", "move", "lower", "row", "below", "weights", "total", "before", "block", "behind", "new", "sets", "weight"] ["game", "name", "move", "lower"] (defScope s_joined) := ⟨rfl, rfl, rfl, by decide +kernel, rfl, by decide +kernel, by decide +kernel⟩
abbrev s__split_nodes : Stmt := topS 47
theorem sc__split_nodes : FnScope ["node", "name", "move", "count", "lower", "children", "block", "child"] ["node", "name", "move", "count", "lower"] (defScope s__split_nodes) := ⟨rfl, rfl, rfl, by decide +kernel, rfl, by decide +kernel, by decide +kernel⟩
abbrev s_split_up : Stmt := topS 48
theorem sc_split_up : FnScope ["game", "name", "move", "count", "lower", "row", "block", "weights", "new", "sets"] ["game", "name", "move", "count", "lower"] (defScope s_split_up) := ⟨rfl, rfl, rfl, by decide +kernel, rfl, by decide +kernel, by decide +kernel⟩
abbrev s__node_for_step : Stmt := topS 50
theorem sc__node_for_step : FnScope ["tree", "path", "node"] ["tree", "path"] (defScope s__node_for_step) := ⟨rfl, rfl, rfl, by decide +kernel, rfl, by decide +kernel, by decide +kernel⟩
abbrev s__inner_node : Stmt := topS 51
theorem sc__inner_node : FnScope ["tree", "path", "node"] ["tree", "path"] (defScope s__inner_node) := ⟨rfl, rfl, rfl, by decide +kernel, rfl, by decide +kernel, by decide +kernel⟩
abbrev s_swapped : Stmt := topS 52
theorem sc_swapped : FnScope ["game", "path", "name", "children", "child", "lower", "places", "turned", "move"] ["game", "path"] (defScope s_swapped) := ⟨rfl, rfl, rfl, by decide +kernel, rfl, by decide +kernel, by decide +kernel⟩
abbrev s_put_in : Stmt := topS 53
theorem sc_put_in : FnScope ["game", "path", "name", "node", "row", "upper", "_"] ["game", "path", "name"] (defScope s_put_in) := ⟨rfl, rfl, rfl, by decide +kernel, rfl, by decide +kernel, by decide +kernel⟩
abbrev s_taken_out : Stmt := topS 54
theorem sc_taken_out : FnScope ["game", "path", "children", "child"] ["game", "path"] (defScope s_taken_out) := ⟨rfl, rfl, rfl, by decide +kernel, rfl, by decide +kernel, by decide +kernel⟩
abbrev s_apply_step : Stmt := topS 56
theorem sc_apply_step : FnScope ["game", "step", "path", "name", "owner", "weights", "new", "order", "move", "lower", "count", "upper", "names"] ["game", "step"] (defScope s_apply_step) := ⟨rfl, rfl, rfl, by decide +kernel, rfl, by decide +kernel, by decide +kernel⟩
abbrev s_turned_order : Stmt := topS 57
theorem sc_turned_order : FnScope ["order", "move"] ["order"] (defScope s_turned_order) := ⟨rfl, rfl, rfl, by decide +kernel, rfl, by decide +kernel, by decide +kernel⟩
abbrev s_turned_step : Stmt := topS 58
theorem sc_turned_step : FnScope ["game", "step", "path", "name", "new", "order", "move", "lower", "upper", "names"] ["game", "step"] (defScope s_turned_step) := ⟨rfl, rfl, rfl, by decide +kernel, rfl, by decide +kernel, by decide +kernel⟩
abbrev s__choice_in : Stmt := topS 61
theorem sc__choice_in : FnScope ["rows", "owner", "strategy", "names", "row", "name", "move"] ["rows", "owner", "strategy"] (defScope s__choice_in) := ⟨rfl, rfl, rfl, by decide +kernel, rfl, by decide +kernel, by decide +kernel⟩
abbrev s__count_in : Stmt := topS 62
theorem sc__count_in : FnScope ["rows", "name", "row"] ["rows", "name"] (defScope s__count_in) := ⟨rfl, rfl, rfl, by decide +kernel, rfl, by decide +kernel, by decide +kernel⟩
abbrev s__change_choice : Stmt := topS 63
theorem sc__change_choice : FnScope ["choice", "rows", "step", "name", "new", "order", "move", "lower", "count", "names", "chosen", "part", "upper"] ["choice", "rows", "step"] (defScope s__change_choice) := ⟨rfl, rfl, rfl, by decide +kernel, rfl, by decide +kernel, by decide +kernel⟩
abbrev s_carry_over : Stmt := topS 64
theorem sc_carry_over : FnScope ["rows", "rows_after", "step", "owner", "strategy", "choice", "row"] ["rows", "rows_after", "step", "owner", "strategy"] (defScope s_carry_over) := ⟨rfl, rfl, rfl, by decide +kernel, rfl, by decide +kernel, by decide +kernel⟩
abbrev s_Derivation___init__ : Stmt := inClass (topS 66) 0
theorem sc_Derivation___init__ : FnScope ["self", "start", "end", "steps", "back", "stage_rows"] ["self", "start", "end", "steps", "back", "stage_rows"] (defScope s_Derivation___init__) := ⟨rfl, rfl, rfl, by decide +kernel, rfl, by decide +kernel, by decide +kernel⟩
abbrev s_Derivation_of : Stmt := inClass (topS 66) 1
theorem sc_Derivation_of : FnScope ["cls", "game", "steps", "draft", "index", "step"] ["cls", "game", "steps"] (defScope s_Derivation_of) := ⟨rfl, rfl, rfl, by decide +kernel, rfl, by decide +kernel, by decide +kernel⟩
abbrev s_Derivation_still : Stmt := inClass (topS 66) 2
theorem sc_Derivation_still : FnScope ["cls", "game"] ["cls", "game"] (defScope s_Derivation_still) := ⟨rfl, rfl, rfl, by decide +kernel, rfl, by decide +kernel, by decide +kernel⟩
abbrev s_Derivation___add__ : Stmt := inClass (topS 66) 3
theorem sc_Derivation___add__ : FnScope ["self", "other", "stage_rows"] ["self", "other"] (defScope s_Derivation___add__) := ⟨rfl, rfl, rfl, by decide +kernel, rfl, by decide +kernel, by decide +kernel⟩
abbrev s_Derivation___neg__ : Stmt := inClass (topS 66) 4
theorem sc_Derivation___neg__ : FnScope ["self"] ["self"] (defScope s_Derivation___neg__) := ⟨rfl, rfl, rfl, by decide +kernel, rfl, by decide +kernel, by decide +kernel⟩
abbrev s_Derivation___iter__ : Stmt := inClass (topS 66) 5
theorem sc_Derivation___iter__ : FnScope ["self"] ["self"] (defScope s_Derivation___iter__) := ⟨rfl, rfl, rfl, by decide +kernel, rfl, by decide +kernel, by decide +kernel⟩
abbrev s_Derivation___call__ : Stmt := inClass (topS 66) 6
theorem sc_Derivation___call__ : FnScope ["self", "owner", "strategy", "carried_so_far", "index", "step", "rows"] ["self", "owner", "strategy"] (defScope s_Derivation___call__) := ⟨rfl, rfl, rfl, by decide +kernel, rfl, by decide +kernel, by decide +kernel⟩
abbrev s_Derivation_stages : Stmt := inClass (topS 66) 7
theorem sc_Derivation_stages : FnScope ["self"] ["self"] (defScope s_Derivation_stages) := ⟨rfl, rfl, rfl, by decide +kernel, rfl, by decide +kernel, by decide +kernel⟩
abbrev s_Derivation_length : Stmt := inClass (topS 66) 8
theorem sc_Derivation_length : FnScope ["self"] ["self"] (defScope s_Derivation_length) := ⟨rfl, rfl, rfl, by decide +kernel, rfl, by decide +kernel, by decide +kernel⟩
abbrev s_Draft___init__ : Stmt := inClass (topS 67) 0
theorem sc_Draft___init__ : FnScope ["self", "game"] ["self", "game"] (defScope s_Draft___init__) := ⟨rfl, rfl, rfl, by decide +kernel, rfl, by decide +kernel, by decide +kernel⟩
abbrev s_Draft_do : Stmt := inClass (topS 67) 1
theorem sc_Draft_do : FnScope ["self", "step", "after"] ["self", "step"] (defScope s_Draft_do) := ⟨rfl, rfl, rfl, by decide +kernel, rfl, by decide +kernel, by decide +kernel⟩
abbrev s_Draft_done : Stmt := inClass (topS 67) 2
theorem sc_Draft_done : FnScope ["self", "back"] ["self"] (defScope s_Draft_done) := ⟨rfl, rfl, rfl, by decide +kernel, rfl, by decide +kernel, by decide +kernel⟩
abbrev s_substitute : Stmt := topS 69
theorem sc_substitute : FnScope ["host", "outcome", "guest", "sets"] ["host", "outcome", "guest"] (defScope s_substitute) := ⟨rfl, rfl, rfl, by decide +kernel, rfl, by decide +kernel, by decide +kernel⟩
abbrev s__keep_apart : Stmt := topS 70
theorem sc__keep_apart : FnScope ["game", "other", "declared", "row"] ["game", "other"] (defScope s__keep_apart) := ⟨rfl, rfl, rfl, by decide +kernel, rfl, by decide +kernel, by decide +kernel⟩
abbrev s__with_guest : Stmt := topS 71
theorem sc__with_guest : FnScope ["tree", "outcome", "guest", "child"] ["tree", "outcome", "guest"] (defScope s__with_guest) := ⟨rfl, rfl, rfl, by decide +kernel, rfl, by decide +kernel, by decide +kernel⟩
abbrev s_apart : Stmt := topS 72
theorem sc_apart : FnScope ["host", "guest", "declared", "draft", "row", "both"] ["host", "guest"] (defScope s_apart) := ⟨rfl, rfl, rfl, by decide +kernel, rfl, by decide +kernel, by decide +kernel⟩
abbrev s__law_source : Stmt := topS 74
theorem sc__law_source : FnScope ["script", "mixed", "cell"] ["script"] (defScope s__law_source) := ⟨rfl, rfl, rfl, by decide +kernel, rfl, by decide +kernel, by decide +kernel⟩
abbrev s__law_draw : Stmt := topS 75
theorem sc__law_draw : FnScope ["script", "source", "limit", "cell", "found"] ["script", "source", "limit"] (defScope s__law_draw) := ⟨rfl, rfl, rfl, by decide +kernel, rfl, by decide +kernel, by decide +kernel⟩
abbrev s__law_name : Stmt := topS 76
theorem sc__law_name : FnScope ["script", "source", "used", "letters", "signs", "name", "k", "base"] ["script", "source", "used"] (defScope s__law_name) := ⟨rfl, rfl, rfl, by decide +kernel, rfl, by decide +kernel, by decide +kernel⟩
abbrev s__law_gcd : Stmt := topS 77
theorem sc__law_gcd : FnScope ["a", "b", "k"] ["a", "b"] (defScope s__law_gcd) := ⟨rfl, rfl, rfl, by decide +kernel, rfl, by decide +kernel, by decide +kernel⟩
abbrev s__law_reduced : Stmt := topS 78
theorem sc__law_reduced : FnScope ["weights", "common", "weight"] ["weights"] (defScope s__law_reduced) := ⟨rfl, rfl, rfl, by decide +kernel, rfl, by decide +kernel, by decide +kernel⟩
abbrev s__law_sets : Stmt := topS 79
theorem sc__law_sets : FnScope ["script", "source", "many", "most", "rows", "used", "turn", "k", "count", "owner", "weights", "name", "j"] ["script", "source", "many", "most"] (defScope s__law_sets) := ⟨rfl, rfl, rfl, by decide +kernel, rfl, by decide +kernel, by decide +kernel⟩
abbrev s__law_tree : Stmt := topS 80
theorem sc__law_tree : FnScope ["script", "source", "free", "outcomes", "room", "wish", "stop", "row", "rest", "style", "shared", "children", "move", "other"] ["script", "source", "free", "outcomes", "room", "wish"] (defScope s__law_tree) := ⟨rfl, rfl, rfl, by decide +kernel, rfl, by decide +kernel, by decide +kernel⟩
abbrev s__law_dealt : Stmt := topS 81
theorem sc__law_dealt : FnScope ["script", "source", "many", "most", "count", "nodes", "rows", "hands", "row", "outcomes", "k", "games", "hand", "top"] ["script", "source", "many", "most", "count", "nodes"] (defScope s__law_dealt) := ⟨rfl, rfl, rfl, by decide +kernel, rfl, by decide +kernel, by decide +kernel⟩
abbrev s__law_plain : Stmt := topS 82
theorem sc__law_plain : FnScope ["answer", "item"] ["answer"] (defScope s__law_plain) := ⟨rfl, rfl, rfl, by decide +kernel, rfl, by decide +kernel, by decide +kernel⟩
abbrev s__law_ends : Stmt := topS 83
theorem sc__law_ends : FnScope ["tree", "found", "child"] ["tree"] (defScope s__law_ends) := ⟨rfl, rfl, rfl, by decide +kernel, rfl, by decide +kernel, by decide +kernel⟩
abbrev s__law_grown : Stmt := topS 84
theorem sc__law_grown : FnScope ["tree", "outcome", "guest", "child"] ["tree", "outcome", "guest"] (defScope s__law_grown) := ⟨rfl, rfl, rfl, by decide +kernel, rfl, by decide +kernel, by decide +kernel⟩
abbrev s__law_whole : Stmt := topS 85
theorem sc__law_whole : FnScope ["host", "outcome", "guest"] ["host", "outcome", "guest"] (defScope s__law_whole) := ⟨rfl, rfl, rfl, by decide +kernel, rfl, by decide +kernel, by decide +kernel⟩
abbrev s__law_with_set : Stmt := topS 86
theorem sc__law_with_set : FnScope ["script", "source", "game", "name", "count", "row", "tree", "k"] ["script", "source", "game", "name"] (defScope s__law_with_set) := ⟨rfl, rfl, rfl, by decide +kernel, rfl, by decide +kernel, by decide +kernel⟩
abbrev s__law_meeting : Stmt := topS 87
theorem sc__law_meeting : FnScope ["script", "source", "host", "guest", "names", "name", "k", "row"] ["script", "source", "host", "guest"] (defScope s__law_meeting) := ⟨rfl, rfl, rfl, by decide +kernel, rfl, by decide +kernel, by decide +kernel⟩
abbrev s__law_renames : Stmt := topS 88
theorem sc__law_renames : FnScope ["host", "guest", "taken", "mine", "steps", "row", "free", "k", "name"] ["host", "guest"] (defScope s__law_renames) := ⟨rfl, rfl, rfl, by decide +kernel, rfl, by decide +kernel, by decide +kernel⟩
abbrev s__law_new : Stmt := topS 89
theorem sc__law_new : FnScope ["name", "steps", "step"] ["name", "steps"] (defScope s__law_new) := ⟨rfl, rfl, rfl, by decide +kernel, rfl, by decide +kernel, by decide +kernel⟩
abbrev s__law_called : Stmt := topS 90
theorem sc__law_called : FnScope ["tree", "steps", "child"] ["tree", "steps"] (defScope s__law_called) := ⟨rfl, rfl, rfl, by decide +kernel, rfl, by decide +kernel, by decide +kernel⟩
abbrev s__law_refused : Stmt := topS 91
theorem sc__law_refused : FnScope ["host", "outcome", "guest", "e"] ["host", "outcome", "guest"] (defScope s__law_refused) := ⟨rfl, rfl, rfl, by decide +kernel, rfl, by decide +kernel, by decide +kernel⟩
abbrev s__law_set_apart : Stmt := topS 92
theorem sc__law_set_apart : FnScope ["host", "outcome", "guest", "due", "end", "told", "row"] ["host", "outcome", "guest"] (defScope s__law_set_apart) := ⟨rfl, rfl, rfl, by decide +kernel, rfl, by decide +kernel, by decide +kernel⟩
abbrev s_law : Stmt := topS 93
theorem sc_law : FnScope ["script", "source", "host", "guest", "third", "ends", "outcome", "whole", "inside", "other", "inner", "last", "early", "meeting", "row"] ["script"] (defScope s_law) := ⟨rfl, rfl, rfl, by decide +kernel, rfl, by decide +kernel, by decide +kernel⟩
structure Blt (mg : Str → Option Value) : Prop where
  b_ValueError : mg "ValueError" = none
  b_abs : mg "abs" = none
  b_bool : mg "bool" = none
  b_enumerate : mg "enumerate" = none
  b_int : mg "int" = none
  b_isinstance : mg "isinstance" = none
  b_len : mg "len" = none
  b_list : mg "list" = none
  b_range : mg "range" = none
  b_sorted : mg "sorted" = none
  b_str : mg "str" = none
  b_sum : mg "sum" = none
  b_tuple : mg "tuple" = none
  g_gcd : mg "gcd" = some (.builtin "math.gcd")
  c_DIGITS : ∃ t, mg "DIGITS" = some (.str "0123456789" t)
  c_LETTERS : ∃ t, mg "LETTERS" = some (.str "abcdefghijklmnopqrstuvwxyz" t)
  c_LONGEST_NAME : ∃ t, mg "LONGEST_NAME" = some (.int 12 t)
  c_MOST_MOVES : ∃ t, mg "MOST_MOVES" = some (.int 64 t)
structure Zc (K : Kf) (mg : Str → Option Value) : Prop where
  cls_Derivation : Cls K (clsA K "Derivation")
  f_Derivation_start : NoAttr K (clsA K "Derivation") "start"
  f_Derivation_end : NoAttr K (clsA K "Derivation") "end"
  f_Derivation_steps : NoAttr K (clsA K "Derivation") "steps"
  f_Derivation_back : NoAttr K (clsA K "Derivation") "back"
  f_Derivation__stage_rows : NoAttr K (clsA K "Derivation") "_stage_rows"
  cls_Draft : Cls K (clsA K "Draft")
  f_Draft_start : NoAttr K (clsA K "Draft") "start"
  f_Draft_game : NoAttr K (clsA K "Draft") "game"
  f_Draft__done_steps : NoAttr K (clsA K "Draft") "_done_steps"
  f_Draft__back_steps : NoAttr K (clsA K "Draft") "_back_steps"
  f_Draft__rows_so_far : NoAttr K (clsA K "Draft") "_rows_so_far"
structure Xc (K : Kf) (mg : Str → Option Value) : Prop where
  g_GameError : mg "GameError" = some (.ref (clsA K "GameError"))
  g_BadPath : mg "BadPath" = some (.ref (clsA K "BadPath"))
  g_BadStep : mg "BadStep" = some (.ref (clsA K "BadStep"))
  g_BadDerivation : mg "BadDerivation" = some (.ref (clsA K "BadDerivation"))
  g_NamesMeet : mg "NamesMeet" = some (.ref (clsA K "NamesMeet"))
  o_BadStep : Own K mg "BadStep" (clsA K "BadStep")
  o_NamesMeet : Own K mg "NamesMeet" (clsA K "NamesMeet")
  e_NamesMeet : ExcC K (clsA K "NamesMeet")
  m_NamesMeet : PySem.W.exmOne K (.ref (clsA K "NamesMeet")) (.ref (clsA K "NamesMeet")) = some true
  k_NamesMeet_GameError : PySem.W.kitOne K (.ref (clsA K "NamesMeet")) (.ref (clsA K "GameError")) = some true
  k_NamesMeet_ValueError : PySem.W.kitOne K (.ref (clsA K "NamesMeet")) (.type "ValueError") = some true
  k_NamesMeet_BadStep : PySem.W.kitOne K (.ref (clsA K "NamesMeet")) (.ref (clsA K "BadStep")) = some false
/-! the law's source of numbers -/
abbrev SL (i c m : Int) : MO := .lst [.int i, .int c, .int m]
/-- objects other than s persist -/
def Keep (s : Addr) (M M' : PHp) : Prop := ∀ b o, b ≠ s → M b = some o → M' b = some o
theorem Keep.refl (s : Addr) (M : PHp) : Keep s M M := fun _ _ _ h => h
theorem Keep.trans {s : Addr} {M M1 M2 : PHp} (a : Keep s M M1) (b : Keep s M1 M2) : Keep s M M2 := fun x o n h => b x o n (a x o n h)
theorem Keep.put {s : Addr} {M : PHp} {o : MO} : Keep s M (updM M s o) := fun b u n h => by rw [updM_ne n]; exact h
theorem Keep.new {s p : Addr} {M : PHp} {o : MO} (h : M p = none) : Keep s M (updM M p o) := fun b u n e => by rw [updM_ne (neM e h)]; exact e
theorem Keep.of_sub {s : Addr} {M M' : PHp} (h : Sub M M') : Keep s M M' := fun b o _ e => h b o e
theorem rdL.sub {K : Kf} {a : Addr} {M M' : PHp} {l : List PV} (h : rdL K M a l) (k : Sub M M') : rdL K M' a l := by
  rcases h with h | h | h
  · exact .inl (k _ _ h)
  · exact .inr (.inl (k _ _ h))
  · exact .inr (.inr h)
/-- the script at a, its source at s (a script that is the module's own may stand anywhere) -/
structure Env (K : Kf) (M : PHp) (a s : Addr) (ns : List Int) : Prop where
  rd0 : (a ≠ s ∧ (M a = some (.lst (ns.map PV.int)) ∨ M a = some (.ro (ns.map PV.int)))) ∨ KL K a (ns.map PV.int)
  src : ∃ i c m, M s = some (SL i c m) ∧ 0 ≤ i ∧ 0 ≤ c ∧ 0 ≤ m
  len : ns.length ≤ 63
  bits : ∀ z ∈ ns, Builtin.Int.intBits z ≤ 1048576
theorem Env.rd {K : Kf} {M : PHp} {a s : Addr} {ns : List Int} (e : Env K M a s ns) : rdL K M a (ns.map PV.int) := by
  rcases e.rd0 with ⟨_, h | h⟩ | h
  · exact .inl h
  · exact .inr (.inl h)
  · exact .inr (.inr h)
theorem Env.to {K : Kf} {M M' : PHp} {a s : Addr} {ns : List Int} (e : Env K M a s ns) (k : Keep s M M') {i c m : Int} (h : M' s = some (SL i c m)) (h1 : 0 ≤ i) (h2 : 0 ≤ c) (h3 : 0 ≤ m) : Env K M' a s ns := by
  refine ⟨?_, ⟨i, c, m, h, h1, h2, h3⟩, e.len, e.bits⟩
  rcases e.rd0 with ⟨n, h | h⟩ | h
  · exact .inl ⟨n, .inl (k _ _ n h)⟩
  · exact .inl ⟨n, .inr (k _ _ n h)⟩
  · exact .inr h
theorem Env.keep {K : Kf} {M M1 M2 : PHp} {a s : Addr} {ns : List Int} (e : Env K M a s ns) (e1 : Env K M1 a s ns) (k : Keep s M M2) (h : M2 s = M1 s) : Env K M2 a s ns := by
  obtain ⟨i, c, m, g1, g2, g3, g4⟩ := e1.src
  exact e.to k (h.trans g1) g2 g3 g4
theorem Env.put {K : Kf} {M : PHp} {a s : Addr} {ns : List Int} (e : Env K M a s ns) {i c m : Int} (h1 : 0 ≤ i) (h2 : 0 ≤ c) (h3 : 0 ≤ m) : Env K (updM M s (SL i c m)) a s ns := e.to .put updM_same h1 h2 h3
theorem Env.sub {K : Kf} {M M' : PHp} {a s : Addr} {ns : List Int} (e : Env K M a s ns) (h : Sub M M') : Env K M' a s ns := by
  obtain ⟨i, c, m, h1, h2, h3, h4⟩ := e.src
  exact e.to (.of_sub h) (h _ _ h1) h2 h3 h4
theorem Env.new {K : Kf} {M : PHp} {a s p : Addr} {ns : List Int} {o : MO} (e : Env K M a s ns) (h : M p = none) : Env K (updM M p o) a s ns := e.sub (.new h)
/-- from the law's own script -/
theorem Env.first {K : Kf} {M M' : PHp} {a s : Addr} {ns : List Int} {m : Int} (h : rdL K M a (ns.map PV.int)) (hs : M s = none) (sb : Sub M M') (hm : M' s = some (SL 0 0 m)) (h0 : 0 ≤ m) (hl : ns.length ≤ 63) (hb : ∀ z ∈ ns, Builtin.Int.intBits z ≤ 1048576) : Env K M' a s ns := by
  refine ⟨?_, ⟨0, 0, m, hm, by decide, by decide, h0⟩, hl, hb⟩
  rcases h with h | h | h
  · exact .inl ⟨neM h hs, .inl (sb _ _ h)⟩
  · exact .inl ⟨neM h hs, .inr (sb _ _ h)⟩
  · exact .inr h
theorem Env.src_ne {K : Kf} {M : PHp} {a s p : Addr} {ns : List Int} (e : Env K M a s ns) (h : M p = none) : p ≠ s := by
  obtain ⟨i, c, m, h1, _⟩ := e.src
  exact neM' h1 h
theorem Keep.put1 {s : Addr} {M M1 : PHp} {o : MO} (k : Keep s M M1) : Keep s M (updM M1 s o) := k.trans .put
theorem Keep.new1 {s p : Addr} {M M1 : PHp} {o : MO} (k : Keep s M M1) (h : M1 p = none) : Keep s M (updM M1 p o) := k.trans (.new h)
theorem at_ints {ns : List Int} {i : Int} (h0 : 0 ≤ i) (h1 : i < (ns.length : Int)) : ∃ z, z ∈ ns ∧ ns[i.toNat]? = some z ∧ atI (ns.map PV.int) i = some (.int z) := by
  obtain ⟨j, rfl⟩ : ∃ j : Nat, i = (j : Int) := ⟨i.toNat, by omega⟩
  have h : j < ns.length := by omega
  refine ⟨ns[j], List.getElem_mem h, List.getElem?_eq_getElem h, atI_nat ?_⟩
  rw [List.getElem?_map, List.getElem?_eq_getElem h]
  rfl
theorem fm {i j : Int} (h : 0 < j) : 0 ≤ i.fmod j ∧ i.fmod j < j := by
  rw [Int.fmod_eq_emod_of_nonneg i (by omega)]
  exact ⟨Int.emod_nonneg i (by omega), Int.emod_lt_of_pos i h⟩
theorem fd0 {i j : Int} (h0 : 0 ≤ i) (h : 0 < j) : 0 ≤ i.fdiv j := by
  rw [Int.fdiv_eq_ediv_of_nonneg i (by omega)]
  exact Int.ediv_nonneg h0 (by omega)
theorem p18 : (10 : Int) ^ Int.toNat 18 = 1000000000000000000 := by decide
theorem p9 : (10 : Int) ^ Int.toNat 9 = 1000000000 := by decide
theorem p20 : (10 : Int) ^ Int.toNat 20 = 100000000000000000000 := by decide
theorem p31 : (10 : Int) ^ Int.toNat 31 = 10000000000000000000000000000000 := by decide
def sp__law_draw (K : Kf) : PSpec := fun vs M Q _ => ∃ (a s : Addr) (ns : List Int) (l : Int), vs = [.ref a, .ref s, .int l] ∧ Env K M a s ns ∧ 0 < l ∧ Builtin.Int.intBits l ≤ 64 ∧
  ∀ r M', 0 ≤ r → r < l → Env K M' a s ns → Keep s M M' → Q (.int r) M'
theorem sp__law_draw_len {K : Kf} {vs : List PV} {M : PHp} {Q : PVK} {E : PXK} (h : sp__law_draw K vs M Q E) : vs.length = 3 := by
  obtain ⟨_, _, _, _, rfl, _⟩ := h; rfl
theorem bits64 {x : Int} (h : x.natAbs < 2 ^ 64) : intBits x ≤ 64 := intBits_le_iff.mpr h
theorem Keep.own {s p : Addr} {M M2 : PHp} {o : MO} (k : Keep s M M2) (h : M p = none) : Keep s M (updM M2 p o) := fun b u nb hb => by
  by_cases hbp : b = p
  · subst hbp; rw [h] at hb; cases hb
  · rw [updM_ne hbp]; exact k b u nb hb
theorem Env.own {K : Kf} {M M2 : PHp} {a s p : Addr} {ns : List Int} {o : MO} (e : Env K M a s ns) (e2 : Env K M2 a s ns) (h : M p = none) (ps : p ≠ s) (k : Keep s M M2) : Env K (updM M2 p o) a s ns := e.keep e2 (k.own h) (updM_ne ps.symm)
theorem Keep.none {K : Kf} {s p a : Addr} {M M' : PHp} {ns : List Int} (k : Keep s M M') (e : Env K M' a s ns) (h : M' p = none) : M p = none := by
  cases q : M p with
  | none => rfl
  | some o =>
    have := k p o (e.src_ne h) q
    rw [h] at this; cases this

/-! what is known of the heap: S: what may change, L: what stands where -/
theorem updM_at {M : PHp} {a b : Addr} {o u : MO} (n : b ≠ a) (h : M b = some u) : updM M a o b = some u := (updM_ne n).trans h
structure Hd (S : List Addr) (M0 M : PHp) (L : List (Addr × MO)) : Prop where
  kp : ∀ b o, b ∉ S → M0 b = some o → M b = some o
  ats : ∀ x ∈ L, M x.1 = some x.2
  fr : ∀ x ∈ L, M0 x.1 = none ∨ x.1 ∈ S
  nd : (L.map Prod.fst).Nodup
section
variable {K : Kf} {S : List Addr} {M0 M M' : PHp} {L : List (Addr × MO)} {a s p : Addr} {ns : List Int} {o o' : MO} {x y z v : Addr × MO}
theorem Hd.start : Hd S M M [] := ⟨fun _ _ _ h => h, by simp, by simp, List.nodup_nil⟩
theorem Hd.get (h : Hd S M0 M L) (i : Nat) (e : L[i]? = some (p, o)) : M p = some o := h.ats _ (List.mem_of_getElem? e)
theorem Hd.g0 (h : Hd S M0 M ((p, o) :: L)) : M p = some o := h.get 0 rfl
theorem Hd.g1 {y0 : Addr × MO} (h : Hd S M0 M (y0 :: (p, o) :: L)) : M p = some o := h.get 1 rfl
theorem Hd.g2 {y0 y1 : Addr × MO} (h : Hd S M0 M (y0 :: y1 :: (p, o) :: L)) : M p = some o := h.get 2 rfl
theorem Hd.g3 {y0 y1 y2 : Addr × MO} (h : Hd S M0 M (y0 :: y1 :: y2 :: (p, o) :: L)) : M p = some o := h.get 3 rfl
theorem Hd.g4 {y0 y1 y2 y3 : Addr × MO} (h : Hd S M0 M (y0 :: y1 :: y2 :: y3 :: (p, o) :: L)) : M p = some o := h.get 4 rfl
theorem Hd.g5 {y0 y1 y2 y3 y4 : Addr × MO} (h : Hd S M0 M (y0 :: y1 :: y2 :: y3 :: y4 :: (p, o) :: L)) : M p = some o := h.get 5 rfl
theorem Hd.new (h : Hd S M0 M L) (hp : M p = none) : Hd S M0 (updM M p o) ((p, o) :: L) := by
  refine ⟨fun b u nb hb => ?_, fun x hx => ?_, fun x hx => ?_, ?_⟩
  · have := h.kp b u nb hb
    rw [updM_ne (neM this hp)]; exact this
  · rcases List.mem_cons.mp hx with rfl | hx
    · exact updM_same
    · have := h.ats x hx
      rw [updM_ne (neM this hp)]; exact this
  · rcases List.mem_cons.mp hx with rfl | hx
    · by_cases q : p ∈ S
      · exact .inr q
      · left
        cases e : M0 p with
        | none => rfl
        | some u => have := h.kp p u q e; rw [hp] at this; cases this
    · exact h.fr x hx
  · rw [List.map_cons, List.nodup_cons]
    refine ⟨fun hm => ?_, h.nd⟩
    obtain ⟨y, hy, e⟩ := List.mem_map.mp hm
    have := h.ats y hy
    rw [e, hp] at this; cases this
theorem Hd.put {L1 L2 : List (Addr × MO)} (h : Hd S M0 M (L1 ++ (p, o) :: L2)) : Hd S M0 (updM M p o') (L1 ++ (p, o') :: L2) := by
  have nd := h.nd
  rw [List.map_append, List.map_cons] at nd
  have n1 := (List.nodup_append.mp nd)
  have n2 := (List.nodup_cons.mp n1.2.1)
  refine ⟨fun b u nb hb => ?_, fun x hx => ?_, fun x hx => ?_, by rw [List.map_append, List.map_cons]; exact nd⟩
  · have := h.kp b u nb hb
    refine (updM_ne fun e => ?_).trans this
    subst e
    rcases h.fr (b, o) (List.mem_append_right _ List.mem_cons_self) with q | q
    · rw [q] at hb; cases hb
    · exact nb q
  · rcases List.mem_append.mp hx with hx | hx
    · refine (updM_ne fun e => ?_).trans (h.ats x (List.mem_append_left _ hx))
      exact n1.2.2 x.1 (List.mem_map_of_mem hx) p List.mem_cons_self e
    · rcases List.mem_cons.mp hx with rfl | hx
      · exact updM_same
      · refine (updM_ne fun e => ?_).trans (h.ats x (List.mem_append_right _ (List.mem_cons_of_mem _ hx)))
        have q := List.mem_map_of_mem (f := Prod.fst) hx
        rw [e] at q; exact n2.1 q
  · rcases List.mem_append.mp hx with hx | hx
    · exact h.fr x (List.mem_append_left _ hx)
    · rcases List.mem_cons.mp hx with rfl | hx
      · exact h.fr (p, o) (List.mem_append_right _ List.mem_cons_self)
      · exact h.fr x (List.mem_append_right _ (List.mem_cons_of_mem _ hx))
theorem Hd.up0 (h : Hd S M0 M ((p, o) :: L)) : Hd S M0 (updM M p o') ((p, o') :: L) := Hd.put (L1 := []) h
theorem Hd.up1 (h : Hd S M0 M (x :: (p, o) :: L)) : Hd S M0 (updM M p o') (x :: (p, o') :: L) := Hd.put (L1 := [x]) h
theorem Hd.up2 (h : Hd S M0 M (x :: y :: (p, o) :: L)) : Hd S M0 (updM M p o') (x :: y :: (p, o') :: L) := Hd.put (L1 := [x, y]) h
theorem Hd.up3 (h : Hd S M0 M (x :: y :: z :: (p, o) :: L)) : Hd S M0 (updM M p o') (x :: y :: z :: (p, o') :: L) := Hd.put (L1 := [x, y, z]) h
theorem Hd.up4 (h : Hd S M0 M (x :: y :: z :: v :: (p, o) :: L)) : Hd S M0 (updM M p o') (x :: y :: z :: v :: (p, o') :: L) := Hd.put (L1 := [x, y, z, v]) h
/-- fewer things known -/
theorem Hd.less {L' : List (Addr × MO)} (h : Hd S M0 M L) (s : L'.Sublist L) : Hd S M0 M L' := ⟨h.kp, fun x hx => h.ats x (s.subset hx), fun x hx => h.fr x (s.subset hx), h.nd.sublist (s.map _)⟩
theorem Hd.sub (h : Hd [] M0 M L) : Sub M0 M := fun b o hb => h.kp b o (by simp) hb
theorem Hd.step (h : Hd S M0 M L) (k : Sub M M') : Hd S M0 M' L := ⟨fun b u nb hb => k _ _ (h.kp b u nb hb), fun x hx => k _ _ (h.ats x hx), h.fr, h.nd⟩
/-- with the script's source -/
structure He (K : Kf) (S : List Addr) (a s : Addr) (ns : List Int) (M0 M : PHp) (L : List (Addr × MO)) : Prop where
  env : Env K M a s ns
  hd : Hd (s :: S) M0 M L
  sn : s ∉ L.map Prod.fst
  sc : KL K a (ns.map PV.int) ∨ (a ∉ s :: S ∧ ∃ u, M0 a = some u)
theorem He.start (e : Env K M a s ns) : He K [] a s ns M M [] := ⟨e, .start, by simp, by
  rcases e.rd0 with ⟨n, h | h⟩ | h
  · exact .inr ⟨by simpa using n, _, h⟩
  · exact .inr ⟨by simpa using n, _, h⟩
  · exact .inl h⟩
/-- one more object changes: what the caller gives at r -/
theorem He.start1 {r : Addr} (e : Env K M a s ns) (hr : M r = some o) (rs : r ≠ s) (ra : KL K a (ns.map PV.int) ∨ r ≠ a) : He K [r] a s ns M M [(r, o)] := by
  refine ⟨e, ⟨fun _ _ _ h => h, fun x hx => ?_, fun x hx => ?_, by simp⟩, by simpa using rs.symm, ?_⟩
  · rw [List.mem_singleton.mp hx]; exact hr
  · rw [List.mem_singleton.mp hx]; exact .inr (by simp)
  · rcases ra with h | ra
    · exact .inl h
    rcases e.rd0 with ⟨n, h | h⟩ | h
    · exact .inr ⟨by simp [n, ra.symm], _, h⟩
    · exact .inr ⟨by simp [n, ra.symm], _, h⟩
    · exact .inl h
theorem He.get (h : He K S a s ns M0 M L) (i : Nat) (e : L[i]? = some (p, o)) : M p = some o := h.hd.get i e
theorem He.g0 (h : He K S a s ns M0 M ((p, o) :: L)) : M p = some o := h.get 0 rfl
theorem He.g1 {y0 : Addr × MO} (h : He K S a s ns M0 M (y0 :: (p, o) :: L)) : M p = some o := h.get 1 rfl
theorem He.g2 {y0 y1 : Addr × MO} (h : He K S a s ns M0 M (y0 :: y1 :: (p, o) :: L)) : M p = some o := h.get 2 rfl
theorem He.g3 {y0 y1 y2 : Addr × MO} (h : He K S a s ns M0 M (y0 :: y1 :: y2 :: (p, o) :: L)) : M p = some o := h.get 3 rfl
theorem He.g4 {y0 y1 y2 y3 : Addr × MO} (h : He K S a s ns M0 M (y0 :: y1 :: y2 :: y3 :: (p, o) :: L)) : M p = some o := h.get 4 rfl
theorem He.g5 {y0 y1 y2 y3 y4 : Addr × MO} (h : He K S a s ns M0 M (y0 :: y1 :: y2 :: y3 :: y4 :: (p, o) :: L)) : M p = some o := h.get 5 rfl
theorem He.new (h : He K S a s ns M0 M L) (hp : M p = none) : He K S a s ns M0 (updM M p o) ((p, o) :: L) :=
  ⟨h.env.new hp, h.hd.new hp, by rw [List.map_cons]; exact fun hm => (List.mem_cons.mp hm).elim (fun e => h.env.src_ne hp e.symm) h.sn, h.sc⟩
theorem He.put {L1 L2 : List (Addr × MO)} (h : He K S a s ns M0 M (L1 ++ (p, o) :: L2)) : He K S a s ns M0 (updM M p o') (L1 ++ (p, o') :: L2) := by
  have ps : p ≠ s := fun e => h.sn (by rw [List.map_append, List.map_cons]; exact List.mem_append_right _ (e ▸ List.mem_cons_self))
  refine ⟨?_, h.hd.put, by have := h.sn; rw [List.map_append, List.map_cons] at this ⊢; exact this, h.sc⟩
  obtain ⟨i, c, m, g1, g2, g3, g4⟩ := h.env.src
  refine ⟨?_, ⟨i, c, m, (updM_ne ps.symm).trans g1, g2, g3, g4⟩, h.env.len, h.env.bits⟩
  rcases h.sc with q | ⟨q, u, hu⟩
  · exact .inr q
  have ap : a ≠ p := fun e => by
    rcases h.hd.fr (p, o) (List.mem_append_right _ List.mem_cons_self) with f | f
    · rw [← e, hu] at f; cases f
    · exact q (e ▸ f)
  rcases h.env.rd0 with ⟨n, f | f⟩ | f
  · exact .inl ⟨n, .inl ((updM_ne ap).trans f)⟩
  · exact .inl ⟨n, .inr ((updM_ne ap).trans f)⟩
  · exact .inr f
theorem He.up0 (h : He K S a s ns M0 M ((p, o) :: L)) : He K S a s ns M0 (updM M p o') ((p, o') :: L) := He.put (L1 := []) h
theorem He.up1 (h : He K S a s ns M0 M (x :: (p, o) :: L)) : He K S a s ns M0 (updM M p o') (x :: (p, o') :: L) := He.put (L1 := [x]) h
theorem He.up2 (h : He K S a s ns M0 M (x :: y :: (p, o) :: L)) : He K S a s ns M0 (updM M p o') (x :: y :: (p, o') :: L) := He.put (L1 := [x, y]) h
theorem He.up3 (h : He K S a s ns M0 M (x :: y :: z :: (p, o) :: L)) : He K S a s ns M0 (updM M p o') (x :: y :: z :: (p, o') :: L) := He.put (L1 := [x, y, z]) h
theorem He.up4 (h : He K S a s ns M0 M (x :: y :: z :: v :: (p, o) :: L)) : He K S a s ns M0 (updM M p o') (x :: y :: z :: v :: (p, o') :: L) := He.put (L1 := [x, y, z, v]) h
theorem He.less {L' : List (Addr × MO)} (h : He K S a s ns M0 M L) (t : L'.Sublist L) : He K S a s ns M0 M L' := ⟨h.env, h.hd.less t, fun hm => h.sn ((t.map _).subset hm), h.sc⟩
theorem He.d0 (h : He K S a s ns M0 M (x :: L)) : He K S a s ns M0 M L := h.less (List.sublist_cons_self ..)
theorem He.d1 (h : He K S a s ns M0 M (x :: y :: L)) : He K S a s ns M0 M (x :: L) := h.less (.cons_cons _ (List.sublist_cons_self ..))
theorem He.d2 (h : He K S a s ns M0 M (x :: y :: z :: L)) : He K S a s ns M0 M (x :: y :: L) := h.less (.cons_cons _ (.cons_cons _ (List.sublist_cons_self ..)))
theorem He.nil (h : He K S a s ns M0 M L) : He K S a s ns M0 M [] := h.less (List.nil_sublist _)
/-- behind a call that changes the source alone -/
theorem He.call (h : He K S a s ns M0 M L) (e : Env K M' a s ns) (k : Keep s M M') : He K S a s ns M0 M' L := by
  refine ⟨e, ⟨fun b u nb hb => ?_, fun x hx => ?_, h.hd.fr, h.hd.nd⟩, h.sn, h.sc⟩
  · exact k _ _ (fun e => nb (e ▸ List.mem_cons_self)) (h.hd.kp b u nb hb)
  · exact k _ _ (fun e => h.sn (e ▸ List.mem_map_of_mem hx)) (h.hd.ats x hx)
theorem He.step (h : He K S a s ns M0 M L) (k : Sub M M') : He K S a s ns M0 M' L := h.call (h.env.sub k) (.of_sub k)
theorem He.keep (h : He K [] a s ns M0 M L) : Keep s M0 M := fun b o n hb => h.hd.kp b o (by simpa using n) hb
theorem He.old (h : He K S a s ns M0 M L) (n : p ∉ s :: S) (e : M0 p = some o) : M p = some o := h.hd.kp _ _ n e
theorem He.ne_s (h : He K S a s ns M0 M L) (i : Nat) (e : L[i]? = some (p, o)) : p ≠ s := fun q => h.sn (q ▸ List.mem_map_of_mem (f := Prod.fst) (List.mem_of_getElem? e))
theorem He.ne {p q : Addr} {o o' : MO} (h : He K S a s ns M0 M L) (i j : Nat) (n : i ≠ j) (e : L[i]? = some (p, o)) (e' : L[j]? = some (q, o')) : p ≠ q := fun he => by
  subst he
  have nd := h.hd.nd
  have e1 : (L.map Prod.fst)[i]? = some p := by rw [List.getElem?_map, e]; rfl
  have e2 : (L.map Prod.fst)[j]? = some p := by rw [List.getElem?_map, e']; rfl
  exact n ((List.getElem?_inj (List.getElem?_eq_some_iff.mp e1).1 nd).mp (e1.trans e2.symm))
theorem He.ne_a (h : He K S a s ns M0 M L) (i : Nat) (e : L[i]? = some (p, o)) : KL K a (ns.map PV.int) ∨ p ≠ a := by
  rcases h.sc with q | ⟨q, u, hu⟩
  · exact .inl q
  · refine .inr fun e' => ?_
    rcases h.hd.fr _ (List.mem_of_getElem? e) with f | f
    · have f : M0 p = none := f
      rw [e', hu] at f; cases f
    · exact q (e' ▸ f)
theorem He.fresh (h : He K [] a s ns M0 M L) (i : Nat) (e : L[i]? = some (p, o)) : M0 p = none := by
  rcases h.hd.fr _ (List.mem_of_getElem? e) with q | q
  · exact q
  · exact absurd (List.mem_singleton.mp q) (h.ne_s i e)
theorem He.rd (h : He K S a s ns M0 M L) : rdL K M a (ns.map PV.int) := h.env.rd
/-- a call that changes the source and r -/
def Keep2 (s r : Addr) (M M' : PHp) : Prop := ∀ b o, b ≠ s → b ≠ r → M b = some o → M' b = some o
theorem He.keep2 {r : Addr} (h : He K [r] a s ns M0 M L) : Keep2 s r M0 M := fun b o n1 n2 hb => h.hd.kp b o (by simp [n1, n2]) hb
theorem He.call2 {L1 L2 : List (Addr × MO)} (h : He K S a s ns M0 M (L1 ++ (p, o) :: L2)) (e : Env K M' a s ns) (k : Keep2 s p M M') (hp : M' p = some o') : He K S a s ns M0 M' (L1 ++ (p, o') :: L2) := by
  have h2 := h.put (o' := o')
  have ps : p ≠ s := fun e => h.sn (by rw [List.map_append, List.map_cons]; exact List.mem_append_right _ (e ▸ List.mem_cons_self))
  refine h2.call e fun b u n hb => ?_
  by_cases q : b = p
  · subst q; rw [updM_same] at hb; cases hb; exact hp
  · rw [updM_ne q] at hb; exact k b u n q hb
theorem He.c20 (h : He K S a s ns M0 M ((p, o) :: L)) (e : Env K M' a s ns) (k : Keep2 s p M M') (hp : M' p = some o') : He K S a s ns M0 M' ((p, o') :: L) := He.call2 (L1 := []) h e k hp
theorem He.c21 (h : He K S a s ns M0 M (x :: (p, o) :: L)) (e : Env K M' a s ns) (k : Keep2 s p M M') (hp : M' p = some o') : He K S a s ns M0 M' (x :: (p, o') :: L) := He.call2 (L1 := [x]) h e k hp
theorem He.c22 (h : He K S a s ns M0 M (x :: y :: (p, o) :: L)) (e : Env K M' a s ns) (k : Keep2 s p M M') (hp : M' p = some o') : He K S a s ns M0 M' (x :: y :: (p, o') :: L) := He.call2 (L1 := [x, y]) h e k hp
theorem He.c23 (h : He K S a s ns M0 M (x :: y :: z :: (p, o) :: L)) (e : Env K M' a s ns) (k : Keep2 s p M M') (hp : M' p = some o') : He K S a s ns M0 M' (x :: y :: z :: (p, o') :: L) := He.call2 (L1 := [x, y, z]) h e k hp
theorem Hd.perm {L' : List (Addr × MO)} (h : Hd S M0 M L) (p : L.Perm L') : Hd S M0 M L' := ⟨h.kp, fun x hx => h.ats x (p.mem_iff.mpr hx), fun x hx => h.fr x (p.mem_iff.mpr hx), (p.map _).nodup_iff.mp h.nd⟩
theorem He.perm {L' : List (Addr × MO)} (h : He K S a s ns M0 M L) (p : L.Perm L') : He K S a s ns M0 M L' := ⟨h.env, h.hd.perm p, fun hm => h.sn ((p.map _).mem_iff.mpr hm), h.sc⟩
theorem set_split {α : Type} {l : List α} {i : Nat} {x : α} (e : l[i]? = some x) : ∃ l1 l2, l = l1 ++ x :: l2 ∧ l1.length = i := by
  obtain ⟨hi, rfl⟩ := List.getElem?_eq_some_iff.mp e
  exact ⟨l.take i, l.drop (i + 1), by rw [List.getElem_cons_drop, List.take_append_drop], by rw [List.length_take]; omega⟩
theorem He.seti (h : He K S a s ns M0 M L) (i : Nat) (e : L[i]? = some (p, o)) : He K S a s ns M0 (updM M p o') (L.set i (p, o')) := by
  obtain ⟨l1, l2, rfl, rfl⟩ := set_split e
  have := h.put (o' := o')
  rw [List.set_append_right _ _ (Nat.le_refl _), Nat.sub_self]
  exact this
theorem Hd.seti (h : Hd S M0 M L) (i : Nat) (e : L[i]? = some (p, o)) : Hd S M0 (updM M p o') (L.set i (p, o')) := by
  obtain ⟨l1, l2, rfl, rfl⟩ := set_split e
  have := h.put (o' := o')
  rw [List.set_append_right _ _ (Nat.le_refl _), Nat.sub_self]
  exact this
theorem sel_nd {is : List Nat} {L L' : List (Addr × MO)} (nd : (L.map Prod.fst).Nodup) (hn : is.Nodup) (e : is.map (fun i => L[i]?) = L'.map some) : (L'.map Prod.fst).Nodup ∧ ∀ x ∈ L', ∃ i ∈ is, L[i]? = some x := by
  induction is generalizing L' with
  | nil =>
    cases L' with
    | nil => exact ⟨List.nodup_nil, by simp⟩
    | cons x l => cases e
  | cons i is ih =>
    cases L' with
    | nil => cases e
    | cons x l =>
      rw [List.map_cons, List.map_cons, List.cons.injEq] at e
      obtain ⟨h1, h2⟩ := ih (List.nodup_cons.mp hn).2 e.2
      refine ⟨?_, fun y hy => ?_⟩
      · rw [List.map_cons, List.nodup_cons]
        refine ⟨fun hm => ?_, h1⟩
        obtain ⟨y, hy, ey⟩ := List.mem_map.mp hm
        obtain ⟨j, hj, ej⟩ := h2 y hy
        have e1 : (L.map Prod.fst)[i]? = some x.1 := by rw [List.getElem?_map, e.1]; rfl
        have e2 : (L.map Prod.fst)[j]? = some x.1 := by rw [List.getElem?_map, ej, ← ey]; rfl
        have := (List.getElem?_inj (List.getElem?_eq_some_iff.mp e1).1 nd).mp (e1.trans e2.symm)
        exact (List.nodup_cons.mp hn).1 (this ▸ hj)
      · rcases List.mem_cons.mp hy with rfl | hy
        · exact ⟨i, List.mem_cons_self, e.1⟩
        · obtain ⟨j, hj, ej⟩ := h2 y hy
          exact ⟨j, List.mem_cons_of_mem _ hj, ej⟩
theorem Hd.sel {L' : List (Addr × MO)} (h : Hd S M0 M L) (is : List Nat) (hn : is.Nodup) (e : is.map (fun i => L[i]?) = L'.map some) : Hd S M0 M L' := by
  obtain ⟨h1, h2⟩ := sel_nd h.nd hn e
  have mem : ∀ x ∈ L', x ∈ L := fun x hx => by obtain ⟨i, _, q⟩ := h2 x hx; exact List.mem_of_getElem? q
  exact ⟨h.kp, fun x hx => h.ats x (mem x hx), fun x hx => h.fr x (mem x hx), h1⟩
theorem He.sel {L' : List (Addr × MO)} (h : He K S a s ns M0 M L) (is : List Nat) (hn : is.Nodup) (e : is.map (fun i => L[i]?) = L'.map some) : He K S a s ns M0 M L' := by
  obtain ⟨h1, h2⟩ := sel_nd h.hd.nd hn e
  refine ⟨h.env, h.hd.sel is hn e, fun hm => h.sn ?_, h.sc⟩
  obtain ⟨x, hx, q⟩ := List.mem_map.mp hm
  obtain ⟨i, _, q2⟩ := h2 x hx
  exact q ▸ List.mem_map_of_mem (List.mem_of_getElem? q2)
theorem He.nin {A R : List (Addr × MO)} (h : He K S a s ns M0 M (A ++ R)) (i : Nat) (e : R[i]? = some (p, o)) : p ∉ s :: A.map Prod.fst := fun hm => by
  have hx := List.mem_of_getElem? e
  rcases List.mem_cons.mp hm with q | hm
  · exact h.sn (by rw [List.map_append]; exact List.mem_append_right _ (q ▸ List.mem_map_of_mem hx))
  · have nd := h.hd.nd
    rw [List.map_append] at nd
    exact (List.nodup_append.mp nd).2.2 _ hm _ (List.mem_map_of_mem hx) rfl
theorem He.nino (h : He K [] a s ns M0 M L) (n : p ≠ s) (e : M0 p = some o) : p ∉ s :: L.map Prod.fst := fun hm => by
  rcases List.mem_cons.mp hm with q | hm
  · exact n q
  · obtain ⟨x, hx, q⟩ := List.mem_map.mp hm
    rcases h.hd.fr x hx with f | f
    · rw [q, e] at f; cases f
    · exact n (q ▸ List.mem_singleton.mp f)
/-- from here on: what stands in L may change, all else stays -/
theorem He.again (h : He K S a s ns M0 M L) : He K (L.map Prod.fst) a s ns M M L := by
  refine ⟨h.env, ⟨fun _ _ _ e => e, h.hd.ats, fun x hx => .inr (List.mem_cons_of_mem _ (List.mem_map_of_mem hx)), h.hd.nd⟩, h.sn, ?_⟩
  rcases h.sc with q | ⟨q, u, hu⟩
  · exact .inl q
  · refine .inr ⟨fun hm => ?_, u, h.hd.kp _ _ q hu⟩
    rcases List.mem_cons.mp hm with e | hm
    · exact q (e ▸ List.mem_cons_self)
    · obtain ⟨x, hx, e⟩ := List.mem_map.mp hm
      rcases h.hd.fr x hx with f | f
      · rw [e, hu] at f; cases f
      · exact q (e ▸ f)
/-- a new object p that its maker has changed, and one that it has made -/
theorem Hd.madeS (hp : M p = some o) (k : Keep p M M') (hp' : M' p = some o') : Sub (updM M p o') M' := fun b u e => by
  by_cases q : b = p
  · subst q; rw [updM_same] at e; cases e; exact hp'
  · rw [updM_ne q] at e; exact k _ _ q e
theorem Hd.kept (h : Hd S M0 M ((p, o) :: L)) (k : Keep p M M') (hp : M' p = some o') : Hd S M0 M' ((p, o') :: L) := h.up0.step (Hd.madeS (h.get 0 rfl) k hp)
theorem Hd.kepti (h : Hd S M0 M L) (i : Nat) (e : L[i]? = some (p, o)) (k : Keep p M M') (hp : M' p = some o') : Hd S M0 M' (L.set i (p, o')) := (h.seti i e).step (Hd.madeS (h.get i e) k hp)
theorem Hd.made {d : Addr} {od : MO} (h : Hd S M0 M ((p, o) :: L)) (k : Keep p M M') (hp : M' p = some o') (hd : M d = none) (hd' : M' d = some od) : Hd S M0 M' ((d, od) :: (p, o') :: L) := by
  have hpM := h.get 0 rfl
  have dp : d ≠ p := fun e => by subst e; rw [hpM] at hd; cases hd
  have h2 := h.up0 (o' := o')
  have h3 := h2.new (o := od) (p := d) (by rw [updM_ne dp]; exact hd)
  refine h3.step fun b u e => ?_
  by_cases q : b = d
  · subst q; rw [updM_same] at e; cases e; exact hd'
  · rw [updM_ne q] at e; exact Hd.madeS hpM k hp b u e
/-- all but S persists -/
abbrev KeepS (S : List Addr) (M M' : PHp) : Prop := ∀ b o, b ∉ S → M b = some o → M' b = some o
theorem Hd.keepS (h : Hd S M0 M L) : KeepS S M0 M := h.kp
theorem He.kept (h : He K S a s ns M0 M ((p, o) :: L)) (k : Keep p M M') (hp : M' p = some o') : He K S a s ns M0 M' ((p, o') :: L) := h.up0.step (Hd.madeS (h.get 0 rfl) k hp)
theorem He.kepti (h : He K S a s ns M0 M L) (i : Nat) (e : L[i]? = some (p, o)) (k : Keep p M M') (hp : M' p = some o') : He K S a s ns M0 M' (L.set i (p, o')) := (h.seti i e).step (Hd.madeS (h.get i e) k hp)
theorem He.made {d : Addr} {od : MO} (h : He K S a s ns M0 M ((p, o) :: L)) (k : Keep p M M') (hp : M' p = some o') (hd : M d = none) (hd' : M' d = some od) : He K S a s ns M0 M' ((d, od) :: (p, o') :: L) := by
  have hpM := h.get 0 rfl
  have dp : d ≠ p := fun e => by subst e; rw [hpM] at hd; cases hd
  have h2 := h.up0 (o' := o')
  have h3 := h2.new (o := od) (p := d) (by rw [updM_ne dp]; exact hd)
  refine h3.step fun b u e => ?_
  by_cases q : b = d
  · subst q; rw [updM_same] at e; cases e; exact hd'
  · rw [updM_ne q] at e; exact Hd.madeS hpM k hp b u e
/-- behind a call that changes what stands at G's places -/
theorem He.callS {L1 G L2 G' : List (Addr × MO)} (h : He K S a s ns M0 M (L1 ++ (G ++ L2))) (hk : KeepS (G.map Prod.fst) M M') (hG : ∀ x ∈ G', M' x.1 = some x.2) (e : G'.map Prod.fst = G.map Prod.fst) : He K S a s ns M0 M' (L1 ++ (G' ++ L2)) := by
  have inG : ∀ b, b ∈ G.map Prod.fst → M0 b = none ∨ b ∈ s :: S := fun b hb => by
    obtain ⟨x, hx, q⟩ := List.mem_map.mp hb
    exact q ▸ h.hd.fr x (List.mem_append_right _ (List.mem_append_left _ hx))
  have old : ∀ b o, b ∉ s :: S → M0 b = some o → b ∉ G.map Prod.fst := fun b o nb hb hm => by
    rcases inG b hm with q | q
    · rw [q] at hb; cases hb
    · exact nb q
  have sn : s ∉ G.map Prod.fst := fun hm => h.sn (by rw [List.map_append, List.map_append]; exact List.mem_append_right _ (List.mem_append_left _ hm))
  have nd := h.hd.nd
  rw [List.map_append, List.map_append] at nd
  have n1 := List.nodup_append.mp nd
  have n2 := List.nodup_append.mp n1.2.1
  refine ⟨?_, ⟨fun b u nb hb => ?_, fun x hx => ?_, fun x hx => ?_, ?_⟩, ?_, h.sc⟩
  · obtain ⟨i, c, m, g1, g2, g3, g4⟩ := h.env.src
    refine ⟨?_, ⟨i, c, m, hk _ _ sn g1, g2, g3, g4⟩, h.env.len, h.env.bits⟩
    rcases h.sc with q | ⟨q, u, hu⟩
    · exact .inr q
    have an := old a u q hu
    rcases h.env.rd0 with ⟨n, f | f⟩ | f
    · exact .inl ⟨n, .inl (hk _ _ an f)⟩
    · exact .inl ⟨n, .inr (hk _ _ an f)⟩
    · exact .inr f
  · exact hk _ _ (old b u nb hb) (h.hd.kp b u nb hb)
  · rcases List.mem_append.mp hx with hx | hx
    · exact hk _ _ (fun hm => n1.2.2 _ (List.mem_map_of_mem hx) _ (List.mem_append_left _ hm) rfl) (h.hd.ats x (List.mem_append_left _ hx))
    rcases List.mem_append.mp hx with hx | hx
    · exact hG x hx
    · exact hk _ _ (fun hm => n2.2.2 _ hm _ (List.mem_map_of_mem hx) rfl) (h.hd.ats x (List.mem_append_right _ (List.mem_append_right _ hx)))
  · rcases List.mem_append.mp hx with hx | hx
    · exact h.hd.fr x (List.mem_append_left _ hx)
    rcases List.mem_append.mp hx with hx | hx
    · exact inG _ (e ▸ List.mem_map_of_mem hx)
    · exact h.hd.fr x (List.mem_append_right _ (List.mem_append_right _ hx))
  · rw [List.map_append, List.map_append, e]; exact nd
  · have := h.sn
    rw [List.map_append, List.map_append] at this ⊢
    rw [e]; exact this
/-- a new object, known behind a call that adds alone -/
theorem He.addn (h : He K S a s ns M0 M L) (k : Sub M M') (hp : M p = none) (hp' : M' p = some o) : He K S a s ns M0 M' ((p, o) :: L) := by
  refine (h.new (o := o) hp).step fun b u e => ?_
  by_cases q : b = p
  · subst q; rw [updM_same] at e; cases e; exact hp'
  · rw [updM_ne q] at e; exact k b u e
theorem He.adds (h : He K S a s ns M0 M L) (k : Sub M M') {N : List (Addr × MO)} (hN : ∀ x ∈ N, M x.1 = none ∧ M' x.1 = some x.2) (nd : (N.map Prod.fst).Nodup) : He K S a s ns M0 M' (N ++ L) := by
  have h2 := h.step k
  refine ⟨h2.env, ⟨h2.hd.kp, fun x hx => ?_, fun x hx => ?_, ?_⟩, ?_, h.sc⟩
  · rcases List.mem_append.mp hx with hx | hx
    · exact (hN x hx).2
    · exact h2.hd.ats x hx
  · rcases List.mem_append.mp hx with hx | hx
    · by_cases q : x.1 ∈ s :: S
      · exact .inr q
      · left
        cases e : M0 x.1 with
        | none => rfl
        | some u => have := h.hd.kp _ _ q e; rw [(hN x hx).1] at this; cases this
    · exact h2.hd.fr x hx
  · rw [List.map_append]
    refine List.nodup_append.mpr ⟨nd, h2.hd.nd, fun y hy z hz e => ?_⟩
    obtain ⟨x, hx, rfl⟩ := List.mem_map.mp hy
    obtain ⟨v, hv, q⟩ := List.mem_map.mp hz
    have := h.hd.ats v hv
    rw [q, ← e, (hN x hx).1] at this; cases this
  · rw [List.map_append]
    intro hm
    rcases List.mem_append.mp hm with hm | hm
    · obtain ⟨x, hx, q⟩ := List.mem_map.mp hm
      obtain ⟨i, c, m, g1, _⟩ := h.env.src
      rw [← q, (hN x hx).1] at g1; cases g1
    · exact h2.sn hm
/-- more that may change from here on -/
theorem He.more (h : He K S a s ns M M L) {N : List (Addr × MO)} (hN : ∀ x ∈ N, M x.1 = some x.2 ∧ x.1 ∉ s :: S) (hS : ∀ x ∈ L, x.1 ∈ s :: S) (nd : (N.map Prod.fst).Nodup) (na : ∀ x ∈ N, KL K a (ns.map PV.int) ∨ x.1 ≠ a) : He K (S ++ N.map Prod.fst) a s ns M M (L ++ N) := by
  refine ⟨h.env, ⟨fun _ _ _ e => e, fun x hx => ?_, fun x hx => .inr ?_, ?_⟩, ?_, ?_⟩
  · rcases List.mem_append.mp hx with hx | hx
    · exact h.hd.ats x hx
    · exact (hN x hx).1
  · rcases List.mem_append.mp hx with hx | hx
    · rcases List.mem_cons.mp (hS x hx) with q | q
      · rw [q]; exact List.mem_cons_self
      · exact List.mem_cons_of_mem _ (List.mem_append_left _ q)
    · exact List.mem_cons_of_mem _ (List.mem_append_right _ (List.mem_map_of_mem hx))
  · rw [List.map_append]
    refine List.nodup_append.mpr ⟨h.hd.nd, nd, fun y hy z hz e => ?_⟩
    obtain ⟨x, hx, rfl⟩ := List.mem_map.mp hy
    obtain ⟨v, hv, q⟩ := List.mem_map.mp hz
    exact (hN v hv).2 (by rw [q, ← e]; exact hS x hx)
  · rw [List.map_append]
    intro hm
    rcases List.mem_append.mp hm with hm | hm
    · exact h.sn hm
    · obtain ⟨x, hx, q⟩ := List.mem_map.mp hm
      exact (hN x hx).2 (by rw [q]; exact List.mem_cons_self)
  · rcases h.sc with q | ⟨q, u, hu⟩
    · exact .inl q
    by_cases kl : KL K a (ns.map PV.int)
    · exact .inl kl
    refine .inr ⟨fun hm => ?_, u, hu⟩
    rcases List.mem_cons.mp hm with e | hm
    · exact q (e ▸ List.mem_cons_self)
    rcases List.mem_append.mp hm with hm | hm
    · exact q (List.mem_cons_of_mem _ hm)
    · obtain ⟨x, hx, e⟩ := List.mem_map.mp hm
      rcases na x hx with f | f
      · exact kl f
      · exact f e
/-- new lists -/
theorem al {R : Addr → Prop} (h : He K S a s ns M0 M L) (k : ∀ p, M p = none → (∀ o, He K S a s ns M0 (updM M p o) ((p, o) :: L)) → R p) : ∀ p, M p = none → R p := fun p hp => k p hp fun _ => h.new hp
theorem ald {R : Addr → Prop} (h : Hd S M0 M L) (k : ∀ p, M p = none → (∀ o, Hd S M0 (updM M p o) ((p, o) :: L)) → R p) : ∀ p, M p = none → R p := fun p hp => k p hp fun _ => h.new hp
/-- a draw -/
theorem dr {l : Int} {R : Int → PHp → Prop} (h : He K S a s ns M0 M L) (h0 : 0 < l) (hb : intBits l ≤ 64) (k : ∀ r M', 0 ≤ r → r < l → He K S a s ns M0 M' L → R r M') :
    ∃ (a' s' : Addr) (ns' : List Int) (l' : Int), [PV.ref a, .ref s, .int l] = [.ref a', .ref s', .int l'] ∧ Env K M a' s' ns' ∧ 0 < l' ∧ intBits l' ≤ 64 ∧ ∀ r M', 0 ≤ r → r < l' → Env K M' a' s' ns' → Keep s' M M' → R r M' :=
  ⟨a, s, ns, l, rfl, h.env, h0, hb, fun r M' h1 h2 e k' => k r M' h1 h2 (h.call e k')⟩
end
theorem ixN_of {n j : Nat} (h : j < n) : ixN n (j : Int) = some j := by
  unfold ixN
  rw [if_pos (by omega), if_pos (by omega)]; rfl
/-! shapes of questions -/
section
variable {K : Kf} {M : PHp} {a : Addr} {l xs : List PV} {i j : Int} {k : Nat} {A B : Prop} {b : Bool}
theorem shp_br (h : br b A B) : br b A B := h
theorem shp_ixl {R : PV → Prop} (h : ∃ l, rdL K M a l ∧ ∃ v, atI l i = some v ∧ R v) : ∃ l, rdL K M a l ∧ ∃ v, atI l i = some v ∧ R v := h
theorem shp_ixt {R : PV → Prop} (h : ∃ v, atI l i = some v ∧ R v) : ∃ v, atI l i = some v ∧ R v := h
theorem shp_rd {R : List PV → Prop} (h : ∃ l, rdL K M a l ∧ R l) : ∃ l, rdL K M a l ∧ R l := h
theorem shp_set {R : List PV → Nat → Prop} (h : ∃ xs j, M a = some (.lst xs) ∧ ixN xs.length i = some j ∧ R xs j) : ∃ xs j, M a = some (.lst xs) ∧ ixN xs.length i = some j ∧ R xs j := h
theorem shp_sz (h : xs.length ≤ sizeLine ∧ B) : xs.length ≤ sizeLine ∧ B := h
theorem shp_mul (h : IntMulOk i j ∧ B) : IntMulOk i j ∧ B := h
theorem shp_ne (h : j ≠ 0 ∧ B) : j ≠ 0 ∧ B := h
theorem shp_pow (h : (0 ≤ j ∧ j ≤ 1000000 ∧ i.natAbs < 2 ^ 64) ∧ B) : (0 ≤ j ∧ j ≤ 1000000 ∧ i.natAbs < 2 ^ 64) ∧ B := h
theorem shp_kit {t s : String} (h : isiKit t s = true ∧ B) : isiKit t s = true ∧ B := h
theorem shp_tup (h : xs.length = k ∧ B) : xs.length = k ∧ B := h
theorem shp_ty {T : String} {x : PV} (h : tyP K T x M ∧ B) : tyP K T x M ∧ B := h
theorem shp_isi {p : PV} {n : String} {R : String → Prop} (h : ∃ t, tyName K M p t ∧ isiKit t n = true ∧ R t) : ∃ t, tyName K M p t ∧ isiKit t n = true ∧ R t := h
end
/-! instances -/
section
variable {K : Kf} {M : PHp} {a C dx : Addr} {fs fs' : List (Str × PV)} {f : Str} {v : PV} {B : Prop}
theorem shp_fld {R : PV → Prop} (h : ∃ C dx fs v, M a = some (.ins C dx fs) ∧ FldOk K C f ∧ fs.lookup f = some v ∧ R v) : ∃ C dx fs v, M a = some (.ins C dx fs) ∧ FldOk K C f ∧ fs.lookup f = some v ∧ R v := h
theorem g_fld {R : PV → Prop} (h : M a = some (.ins C dx fs)) (ok : FldOk K C f) (l : fs.lookup f = some v) (q : R v) : ∃ C dx fs v, M a = some (.ins C dx fs) ∧ FldOk K C f ∧ fs.lookup f = some v ∧ R v := ⟨_, _, _, _, h, ok, l, q⟩
theorem shp_fls {R : Addr → Addr → List (Str × PV) → Prop} (h : ∃ C dx fs fs', M a = some (.ins C dx fs) ∧ FldOk K C f ∧ fs.length < 1000 ∧ fs' = putX f v fs ∧ R C dx fs') : ∃ C dx fs fs', M a = some (.ins C dx fs) ∧ FldOk K C f ∧ fs.length < 1000 ∧ fs' = putX f v fs ∧ R C dx fs' := h
theorem g_fls {R : Addr → Addr → List (Str × PV) → Prop} (h : M a = some (.ins C dx fs)) (ok : FldOk K C f) (l : fs.length < 1000) (e : fs' = putX f v fs) (q : R C dx fs') : ∃ C dx fs fs', M a = some (.ins C dx fs) ∧ FldOk K C f ∧ fs.length < 1000 ∧ fs' = putX f v fs ∧ R C dx fs' := ⟨_, _, _, _, h, ok, l, e, q⟩
theorem shp_mth (h : (∃ dx fs, M a = some (.ins C dx fs) ∧ fs.lookup f = none) ∧ B) : (∃ dx fs, M a = some (.ins C dx fs) ∧ fs.lookup f = none) ∧ B := h
theorem g_mth (h : ∃ dx fs, M a = some (.ins C dx fs) ∧ fs.lookup f = none) (q : B) : (∃ dx fs, M a = some (.ins C dx fs) ∧ fs.lookup f = none) ∧ B := ⟨h, q⟩
theorem shp_prp (h : (∃ dx fs, M a = some (.ins C dx fs)) ∧ B) : (∃ dx fs, M a = some (.ins C dx fs)) ∧ B := h
theorem g_prp (h : ∃ dx fs, M a = some (.ins C dx fs)) (q : B) : (∃ dx fs, M a = some (.ins C dx fs)) ∧ B := ⟨h, q⟩
end

local macro_rules | `(tactic| walk_at "w") => `(tactic| (conv => whnf))
local macro_rules | `(tactic| walk_at "as") => `(tactic| with_reducible assumption)
local macro_rules | `(tactic| walk_at "ix") => `(tactic| first
  | exact He.g0 (by walk_at "as")
  | exact He.g1 (by walk_at "as")
  | exact He.g2 (by walk_at "as")
  | exact He.g3 (by walk_at "as")
  | exact He.g4 (by walk_at "as")
  | exact He.g5 (by walk_at "as")
  | exact Hd.g0 (by walk_at "as")
  | exact Hd.g1 (by walk_at "as")
  | exact Hd.g2 (by walk_at "as")
  | exact Hd.g3 (by walk_at "as"))
local macro_rules | `(tactic| walk_at "nin") => `(tactic| first
  | walk_at "as"
  | (simp only [List.mem_cons, List.not_mem_nil, or_false, not_or]; refine ⟨?_, ?_⟩ <;> assumption)
  | (simp only [List.mem_cons, List.not_mem_nil, or_false]; assumption)
  | simp)
local macro_rules | `(tactic| walk_at "hp") => `(tactic| first
  | walk_at "as"
  | exact updM_same
  | walk_at "ix"
  | exact He.old (by walk_at "as") (by walk_at "nin") (by walk_at "as")
  | exact Hd.kp (by walk_at "as") _ _ (by walk_at "nin") (by walk_at "as")
  | assumption
  | (rw [updM_ne (by assumption)]; assumption)
  | (rw [updM_ne (Ne.symm (by assumption))]; assumption))
local macro_rules | `(tactic| walk_at "rd") => `(tactic| first
  | assumption
  | exact .inl (by walk_at "hp")
  | exact He.rd (by walk_at "as")
  | exact Env.rd (by assumption))
local macro_rules | `(tactic| walk_at "keep") => `(tactic| first | assumption | exact Keep.refl _ _ | (refine Keep.put1 ?_; walk_at "keep") | (refine Keep.new1 ?_ (by assumption); walk_at "keep") | (refine Keep.trans ?_ (by assumption); walk_at "keep"))
local macro_rules | `(tactic| walk_at "he") => `(tactic| first
  | assumption
  | exact He.up0 (by walk_at "he")
  | exact He.up1 (by walk_at "he")
  | exact He.up2 (by walk_at "he")
  | exact He.up3 (by walk_at "he")
  | exact He.up4 (by walk_at "he")
  | exact He.new (by walk_at "he") (by walk_at "as"))
local macro_rules | `(tactic| walk_at "hd") => `(tactic| first
  | assumption
  | exact Hd.up0 (by walk_at "hd")
  | exact Hd.up1 (by walk_at "hd")
  | exact Hd.up2 (by walk_at "hd")
  | exact Hd.up3 (by walk_at "hd")
  | exact Hd.up4 (by walk_at "hd")
  | exact Hd.new (by walk_at "hd") (by walk_at "as"))
local macro_rules | `(tactic| walk_at "lk") => `(tactic| first | exact lk_hit | exact lk_nil | exact lk_miss (by decide +kernel) (by walk_at "lk"))
local macro_rules | `(tactic| walk_at "px") => `(tactic| first | exact px_hit | exact px_nil | exact px_miss (by decide +kernel) (by walk_at "px"))
local macro_rules | `(tactic| walk_at "subs") => `(tactic| repeat (first | exact SubS.nil | refine SubS.same ?_ | refine SubS.none ?_))
local macro_rules | `(tactic| walk_at "p1") => `(tactic| (conv => whnf) <;> first
  | refine stp ?_
  | ((with_reducible refine shp_br ?_); first
    | (with_reducible refine br_tt ?_)
    | (with_reducible refine br_ff ?_)
    | (with_reducible refine br_nt ?_)
    | (with_reducible refine br_nf ?_)
    | (with_reducible refine br_i1 (by decide) ?_)
    | (with_reducible refine br_i0 (by decide) ?_)
    | (with_reducible refine br_n1 (by decide) ?_)
    | (with_reducible refine br_n0 (by decide) ?_))
  | ((with_reducible refine shp_sz ?_); refine g_sz (szl rfl) ?_)
  | ((with_reducible refine shp_ixl ?_); refine g_ixl (by walk_at "rd") (by first | exact rfl | assumption) ?_)
  | ((with_reducible refine shp_ixt ?_); first
    | refine g_ixt rfl ?_
    | refine g_ixt (by assumption) ?_)
  | ((with_reducible refine shp_rd ?_); refine g_rd (by walk_at "rd") ?_)
  | ((with_reducible refine shp_set ?_); refine g_set (by walk_at "hp") rfl ?_)
  | ((with_reducible refine shp_mul ?_); first
    | refine g_mul (IntMulOk.of_right (by decide)) ?_
    | refine g_mul (IntMulOk.of_left (by decide)) ?_
    | refine g_mul (by assumption) ?_)
  | ((with_reducible refine shp_ne ?_); first
    | refine g_ne (by decide) ?_
    | refine g_ne (by first | assumption | omega) ?_)
  | ((with_reducible refine shp_pow ?_); refine g_pow (by decide) ?_)
  | ((with_reducible refine shp_kit ?_); refine g_kit (by decide) ?_)
  | ((with_reducible refine shp_tup ?_); refine g_tup rfl ?_)
  | ((with_reducible refine shp_isi ?_); first
    | (refine g_isiL (by walk_at "hp") (by decide) ?_)
    | (refine g_isiD (by walk_at "hp") (by decide) ?_))
  | (with_reducible refine g_ins ?_)
  | (with_reducible refine g_ini ?_)
  | ((with_reducible refine shp_fld ?_); refine g_fld (by walk_at "hp") (by walk_at "as") (by walk_at "lk") ?_)
  | ((with_reducible refine shp_fls ?_); refine g_fls (by walk_at "hp") (by walk_at "as") (Nat.le_of_ble_eq_true rfl) (by walk_at "px") ?_)
  | ((with_reducible refine shp_mth ?_); refine g_mth ⟨_, _, (by walk_at "hp"), (by walk_at "lk")⟩ ?_)
  | ((with_reducible refine shp_prp ?_); refine g_prp ⟨_, _, (by walk_at "hp")⟩ ?_)
  | ((with_reducible refine shp_ty ?_); refine g_ty (.inl ⟨rfl, _, (by walk_at "rd")⟩) ?_))
local macro_rules | `(tactic| walk_at "on") => `(tactic| ((repeat walk_at "p1"); (try (conv => whnf))))
local macro_rules | `(tactic| walk_at "go") => `(tactic| ((try dsimp only [defCx, defCxR, Cx.nox, Cx.wish, cxOf]); walk_at "on"))

theorem ok__law_draw {P : Program} {w : World} {K : Kf} {mg : Str → Option Value} {base : Heap} (h0 : Here K mg "_law_draw" s__law_draw ["script", "source", "limit"]) (T : Blt mg) (Z : Zc K mg) (XC : Xc K mg) (Su : Sure P base)  : Callee P w K mg base 34 "_law_draw" ["script", "source", "limit"] (sp__law_draw K) := by
  have z_Derivation_start : FldOk K (clsA K "Derivation") "start" := ⟨Z.cls_Derivation, Z.f_Derivation_start⟩
  have z_Derivation_end : FldOk K (clsA K "Derivation") "end" := ⟨Z.cls_Derivation, Z.f_Derivation_end⟩
  have z_Derivation_steps : FldOk K (clsA K "Derivation") "steps" := ⟨Z.cls_Derivation, Z.f_Derivation_steps⟩
  have z_Derivation_back : FldOk K (clsA K "Derivation") "back" := ⟨Z.cls_Derivation, Z.f_Derivation_back⟩
  have z_Derivation__stage_rows : FldOk K (clsA K "Derivation") "_stage_rows" := ⟨Z.cls_Derivation, Z.f_Derivation__stage_rows⟩
  have z_Draft_start : FldOk K (clsA K "Draft") "start" := ⟨Z.cls_Draft, Z.f_Draft_start⟩
  have z_Draft_game : FldOk K (clsA K "Draft") "game" := ⟨Z.cls_Draft, Z.f_Draft_game⟩
  have z_Draft__done_steps : FldOk K (clsA K "Draft") "_done_steps" := ⟨Z.cls_Draft, Z.f_Draft__done_steps⟩
  have z_Draft__back_steps : FldOk K (clsA K "Draft") "_back_steps" := ⟨Z.cls_Draft, Z.f_Draft__back_steps⟩
  have z_Draft__rows_so_far : FldOk K (clsA K "Draft") "_rows_so_far" := ⟨Z.cls_Draft, Z.f_Draft__rows_so_far⟩
  refine ok_of h0 sc__law_draw (fun vs M Q E h => sp__law_draw_len h) (fun f cdv A outer s H E hr => ⟨_, (psscut (psif (PW.pt (pwand (ptcmp (opEqK (K := K) (by exact hr.units)) (pixK (K := K) (pv 1) pinT) pinT (nomark _)) (pwand1 (ptcmp (opLt (by exact hr.units0)) (pixK (K := K) (pv 1) pinT) (pcallB (cLenK (K := K)) (by rfl) T.b_len (by decide +kernel) (pacons (pv 0) panil)) (nomark _))))) (psscons (psset 3 sc__law_draw.nd (pcallB cAbs (by rfl) T.b_abs (by decide +kernel) (pacons (pixK (K := K) (pv 0) (pixK (K := K) (pv 1) pinT)) panil)))
      (psscons (psasg (pop opAdd (pixK (K := K) (pv 1) pinT) pinT) (pgsub (pv 1) pinT))
      (psscons (psif (ptcmp (opLt (by exact hr.units0)) (pv 3) (pop opPow pinT pinT) (nomark _)) (psscons (psset 3 sc__law_draw.nd (pop opMod (pcallTy cInt (by rfl) T.b_int (by decide +kernel) (pacons (pop opAdd (pop opAdd (pop opMul (pv 3) pinT) (pop opMul (pixK (K := K) (pv 1) pinT) pinT)) (pixK (K := K) (pv 1) pinT)) panil)) pinT))
      (pssone (psset 3 sc__law_draw.nd (pop opMod (pcallTy cInt (by rfl) T.b_int (by decide +kernel) (pacons (pop opAdd (pop opAdd (pop opMul (pv 3) (pv 3)) (pop opMul (pv 3) pinT)) (pixK (K := K) (pv 1) pinT)) panil)) pinT)))) pssnil)
      (pssone (psasg (pv 3) (pgsub (pv 1) pinT)))))) pssnil)
      (psscons (psif (ptcmp opGt (pixK (K := K) (pv 1) pinT) pinT (nomark _)) (psscons (psset 4 sc__law_draw.nd (pop opMod (pcallTy cInt (by rfl) T.b_int (by decide +kernel) (pacons (pixK (K := K) (pv 1) pinT) panil)) (pv 2)))
      (psscons (psasg (pop (opFdiv Su (by exact hr.mono (by first | decide | omega))) (pixK (K := K) (pv 1) pinT) (pv 2)) (pgsub (pv 1) pinT))
      (pssone (psret (pv 4))))) pssnil)
      (psscons (psasg (pop opMod (pcallTy cInt (by rfl) T.b_int (by decide +kernel) (pacons (pop opAdd (pop opMul (pixK (K := K) (pv 1) pinT) pinT) pinT) panil)) pinT) (pgsub (pv 1) pinT))
      (pssone (psret (pop opMod (pcallTy cInt (by rfl) T.b_int (by decide +kernel) (pacons (pop (opFdiv Su (by exact hr.mono (by first | decide | omega))) (pixK (K := K) (pv 1) pinT) pinT) panil)) (pv 2))))))), fun vs M Q Ep h => ?_⟩)
  obtain ⟨a, s, ns, l, rfl, e, hl, hb, k⟩ := h
  obtain ⟨i, c, m, hs, hi, hc, hm⟩ := e.src
  refine ⟨fun σ M1 => σ = [some (.ref a), some (.ref s), some (.int l), none, none] ∧ Env K M1 a s ns ∧ Keep s M M1, ?_, ?_⟩
  · walk_at "go"
    refine br_dec (fun h0 => ?_) (fun h0 => ?_)
    · walk_at "on"
      refine br_dec (fun h1 => ?_) (fun h1 => ?_)
      · rw [List.length_map] at h1
        obtain ⟨z, hz1, hz2, hz3⟩ := at_ints hi h1
        walk_at "on"
        refine br_dec (fun h2 => ?_) (fun h2 => ?_)
        · rw [p18] at h2
          walk_at "on"
          refine ⟨small_ok ?_, ?_⟩
          · have f := fm (i := (z.natAbs : Int) * 48271 + (i + 1) * 69621 + m) (j := 2147483647) (by decide)
            omega
          walk_at "on"
          refine ⟨_, _, ⟨?_, .refl _, rfl, e.to (by walk_at "keep") updM_same (by omega) (fm (by decide)).1 hm, by walk_at "keep"⟩⟩
          walk_at "subs"
        · walk_at "on"
          refine ⟨_, _, ⟨?_, .refl _, rfl, e.to (by walk_at "keep") updM_same (by omega) (by omega) hm, by walk_at "keep"⟩⟩
          walk_at "subs"
      · walk_at "on"
        exact ⟨_, _, .refl _, .refl _, rfl, e, .refl _ _⟩
    · walk_at "on"
      exact ⟨_, _, .refl _, .refl _, rfl, e, .refl _ _⟩
  · rintro σ M1 ⟨rfl, e1, k1⟩
    obtain ⟨i, c, m, hs, hi, hc, hm⟩ := e1.src
    walk_at "go"
    refine br_dec (fun h0 => ?_) (fun h0 => ?_)
    · walk_at "on"
      obtain ⟨f1, f2⟩ := fm (i := c) hl
      exact ⟨_, .refl _, k _ _ f1 f2 (e1.to (by walk_at "keep") updM_same hi (fd0 hc hl) hm) (k1.trans (by walk_at "keep"))⟩
    · walk_at "on"
      obtain ⟨f1, f2⟩ := fm (i := (Int.fmod (m * 69621 + 4321) 2147483647).fdiv 97) hl
      exact ⟨_, .refl _, k _ _ f1 f2 (e1.to (by walk_at "keep") updM_same hi hc (fm (by decide)).1) (k1.trans (by walk_at "keep"))⟩

/-- a source is made -/
def sp__law_source (K : Kf) : PSpec := fun vs M Q _ => ∃ (a : Addr) (ns : List Int), vs = [.ref a] ∧ rdL K M a (ns.map PV.int) ∧ ∀ p M' m, M p = none → Sub M M' → M' p = some (SL 0 0 m) → 0 ≤ m → Q (.ref p) M'
theorem sp__law_source_len {K : Kf} {vs : List PV} {M : PHp} {Q : PVK} {E : PXK} (h : sp__law_source K vs M Q E) : vs.length = 1 := by
  obtain ⟨_, _, rfl, _⟩ := h; rfl

theorem ok__law_source {P : Program} {w : World} {K : Kf} {mg : Str → Option Value} {base : Heap} (h0 : Here K mg "_law_source" s__law_source ["script"]) (T : Blt mg) (Z : Zc K mg) (XC : Xc K mg) (Su : Sure P base)  : Callee P w K mg base 34 "_law_source" ["script"] (sp__law_source K) := by
  have z_Derivation_start : FldOk K (clsA K "Derivation") "start" := ⟨Z.cls_Derivation, Z.f_Derivation_start⟩
  have z_Derivation_end : FldOk K (clsA K "Derivation") "end" := ⟨Z.cls_Derivation, Z.f_Derivation_end⟩
  have z_Derivation_steps : FldOk K (clsA K "Derivation") "steps" := ⟨Z.cls_Derivation, Z.f_Derivation_steps⟩
  have z_Derivation_back : FldOk K (clsA K "Derivation") "back" := ⟨Z.cls_Derivation, Z.f_Derivation_back⟩
  have z_Derivation__stage_rows : FldOk K (clsA K "Derivation") "_stage_rows" := ⟨Z.cls_Derivation, Z.f_Derivation__stage_rows⟩
  have z_Draft_start : FldOk K (clsA K "Draft") "start" := ⟨Z.cls_Draft, Z.f_Draft_start⟩
  have z_Draft_game : FldOk K (clsA K "Draft") "game" := ⟨Z.cls_Draft, Z.f_Draft_game⟩
  have z_Draft__done_steps : FldOk K (clsA K "Draft") "_done_steps" := ⟨Z.cls_Draft, Z.f_Draft__done_steps⟩
  have z_Draft__back_steps : FldOk K (clsA K "Draft") "_back_steps" := ⟨Z.cls_Draft, Z.f_Draft__back_steps⟩
  have z_Draft__rows_so_far : FldOk K (clsA K "Draft") "_rows_so_far" := ⟨Z.cls_Draft, Z.f_Draft__rows_so_far⟩
  refine ok_of h0 sc__law_source (fun vs M Q E h => sp__law_source_len h) (fun f cdv A outer s H E hr => ⟨_, (psscons (psset 1 sc__law_source.nd pinT)
      (psscons (psfor PassesOwn.never rfl (piseqK (K := K) (pv 0)) (pgname (i := 2) sc__law_source.nd) (pssone (psset 1 sc__law_source.nd (pop opMod (pcallTy cInt (by rfl) T.b_int (by decide +kernel) (pacons (pop opAdd (pop opAdd (pop opMul (pv 1) pinT) (pop opMul (pv 2) pinT)) pinT) panil)) pinT))))
      (pssone (psret (plst (pacons pinT (pacons pinT (pacons (pv 1) panil)))))))), fun vs M Q Ep h => ?_⟩)
  obtain ⟨a, ns, rfl, hr1, k⟩ := h
  walk_at "go"
  refine ⟨fun _ σ M' => ∃ m, σ = [some (.ref a), some (.int m), none] ∧ M' = M ∧ 0 ≤ m ∧ m < 2147483647, ⟨_, _, .refl _, .refl _, 20011, rfl, rfl, by decide, by decide⟩, ?_, ?_, ?_⟩
  · rintro _ σ M' ⟨m, rfl, rfl, _⟩
    exact hr1
  · rintro i x σ M' hx ⟨m, rfl, rfl, h0, h1⟩
    rw [List.getElem?_map] at hx
    cases hx2 : ns[i]? with
    | none => rw [hx2] at hx; cases hx
    | some z =>
      rw [hx2] at hx; cases hx
      walk_at "on"
      exact ⟨_, _, by walk_at "subs", .refl _, _, rfl, rfl, fm (by decide)⟩
  · rintro σ M' ⟨m, rfl, rfl, h0, h1⟩
    walk_at "on"
    intro p hp
    exact ⟨_, .refl _, k p _ m hp (.new hp) updM_same h0⟩

theorem fdiv_mul {c x : Int} (h : c ≠ 0) : (c * x).fdiv c = x := by
  rw [Int.mul_comm]; exact Int.mul_fdiv_cancel x h
/-- the greatest common divisor of the numbers -/
def gl (ws : List Int) : Nat := ws.foldl (fun g w => Nat.gcd g w.natAbs) 0
theorem gl_from (ws : List Int) : ∀ g : Nat, ws.foldl (fun g w => Nat.gcd g w.natAbs) g = Nat.gcd g (gl ws) := by
  induction ws with
  | nil => intro g; simp [gl]
  | cons w r ih =>
    intro g
    have h : gl (w :: r) = Nat.gcd (Nat.gcd 0 w.natAbs) (gl r) := by
      show List.foldl _ (Nat.gcd 0 w.natAbs) r = _
      rw [ih]
    rw [List.foldl_cons, ih, h, Nat.gcd_zero_left, Nat.gcd_assoc]
theorem gl_cons (w : Int) (r : List Int) : gl (w :: r) = Nat.gcd w.natAbs (gl r) := by
  show List.foldl _ (Nat.gcd 0 w.natAbs) r = _
  rw [gl_from, Nat.gcd_zero_left]
theorem gl_snoc (r : List Int) (w : Int) : gl (r ++ [w]) = Nat.gcd (gl r) w.natAbs := by
  unfold gl
  rw [List.foldl_append]; rfl
theorem gl_dvd {ws : List Int} : ∀ w ∈ ws, ((gl ws : Nat) : Int) ∣ w := by
  induction ws with
  | nil => intro w h; cases h
  | cons x r ih =>
    intro w h
    rw [gl_cons]
    rcases List.mem_cons.mp h with rfl | h
    · exact Int.natAbs_dvd_natAbs.mp (by rw [Int.natAbs_natCast]; exact Nat.gcd_dvd_left _ _)
    · exact Int.dvd_trans (Int.natAbs_dvd_natAbs.mp (by rw [Int.natAbs_natCast, Int.natAbs_natCast]; exact Nat.gcd_dvd_right _ _)) (ih w h)
theorem gl_mul (g : Int) (ws : List Int) : gl (ws.map (g * ·)) = g.natAbs * gl ws := by
  induction ws with
  | nil => simp [gl]
  | cons x r ih => rw [List.map_cons, gl_cons, gl_cons, ih, Int.natAbs_mul, Nat.gcd_mul_left]
theorem gl_zero {ws : List Int} (h : gl ws = 0) : ∀ w ∈ ws, w = 0 := fun w hw => by
  have := gl_dvd w hw
  rw [h] at this
  exact Int.zero_dvd.mp this
/-- the weights divided by their greatest common divisor -/
inductive IsRed (ws rs : List Int) : Prop
  | zero (h : ∀ w ∈ ws, w = 0) (e : rs = ws)
  | pos (g : Int) (hg : 0 < g) (e : ws = rs.map (g * ·)) (h : gl rs = 1)
theorem isRed_of {ws : List Int} (h : gl ws ≠ 0) : IsRed ws (ws.map fun w => w.fdiv (gl ws : Nat)) := by
  have g0 : ((gl ws : Nat) : Int) ≠ 0 := by omega
  have e : ws = (ws.map fun w => w.fdiv (gl ws : Nat)).map (((gl ws : Nat) : Int) * ·) := by
    rw [List.map_map]
    conv => lhs; rw [← List.map_id ws]
    refine List.map_congr_left fun w hw => ?_
    obtain ⟨x, hx⟩ := gl_dvd w hw
    show w = ((gl ws : Nat) : Int) * w.fdiv _
    conv => rhs; rw [hx, fdiv_mul g0]
    exact hx
  refine .pos (gl ws : Nat) (by omega) e ?_
  have h2 := congrArg gl e
  rw [gl_mul, Int.natAbs_natCast] at h2
  have h3 : gl ws * 1 = gl ws * gl (ws.map fun w => w.fdiv (gl ws : Nat)) := by rw [Nat.mul_one]; exact h2
  exact (Nat.eq_of_mul_eq_mul_left (by omega) h3).symm
theorem IsRed.len {ws rs : List Int} (h : IsRed ws rs) : rs.length = ws.length := by
  cases h with
  | zero h e => rw [e]
  | pos g hg e h => rw [e, List.length_map]
/-- a tuple or a list -/
def SeqV (K : Kf) (M : PHp) (x : PV) (l : List PV) : Prop := x = .tup l ∨ ∃ a, x = .ref a ∧ rdL K M a l
theorem take_succ' {α : Type} {l : List α} {i : Nat} {x : α} (h : l[i]? = some x) : l.take (i + 1) = l.take i ++ [x] := by
  rw [List.take_add_one, h]; rfl
theorem int_at {ns : List Int} {i : Nat} {p : PV} (h : (ns.map PV.int)[i]? = some p) : ∃ z, ns[i]? = some z ∧ p = .int z := by
  rw [List.getElem?_map] at h
  cases e : ns[i]? with
  | none => rw [e] at h; cases h
  | some z => rw [e] at h; exact ⟨z, rfl, (Option.some.inj h).symm⟩
theorem sz_of {n m : Nat} (h : n ≤ m) (hm : m ≤ 1000000) : n < sizeLine := by rw [sizeLine_eq]; omega
theorem lt_of_get {α : Type} {l : List α} {i : Nat} {x : α} (h : l[i]? = some x) : i < l.length := (List.getElem?_eq_some_iff.mp h).1

theorem mod_half {x y : Nat} (h0 : 0 < y) (h : y ≤ x) : 2 * (x % y) ≤ x := by
  have h1 := Nat.div_add_mod x y
  have h2 := Nat.mod_lt x h0
  have h3 : 1 ≤ x / y := (Nat.one_le_div_iff h0).mpr h
  have h4 : y * 1 ≤ y * (x / y) := Nat.mul_le_mul_left _ h3
  omega
theorem gcd_step {x y i b : Nat} (h0 : 0 < y) (h1 : y * 2 ^ (i / 2) ≤ b) (h2 : 0 < i → y < x ∧ x * 2 ^ ((i - 1) / 2) ≤ b) : x % y * 2 ^ ((i + 1) / 2) ≤ b := by
  cases i with
  | zero =>
    have := Nat.mod_lt x h0
    simp at h1 ⊢
    omega
  | succ i =>
    obtain ⟨h3, h4⟩ := h2 (Nat.succ_pos _)
    have e : (i + 1 + 1) / 2 = i / 2 + 1 := by omega
    rw [e, Nat.pow_succ, Nat.mul_comm _ 2, ← Nat.mul_assoc, Nat.mul_comm _ 2]
    exact Nat.le_trans (Nat.mul_le_mul_right _ (mod_half h0 (Nat.le_of_lt h3))) h4
def sp__law_gcd (K : Kf) : PSpec := fun vs M Q _ => ∃ (a b : Nat), vs = [.int a, .int b] ∧ b < 2 ^ 200 ∧ Q (.int (Nat.gcd a b : Nat)) M
theorem sp__law_gcd_len {K : Kf} {vs : List PV} {M : PHp} {Q : PVK} {E : PXK} (h : sp__law_gcd K vs M Q E) : vs.length = 2 := by
  obtain ⟨_, _, rfl, _⟩ := h; rfl

theorem ok__law_gcd {P : Program} {w : World} {K : Kf} {mg : Str → Option Value} {base : Heap} (h0 : Here K mg "_law_gcd" s__law_gcd ["a", "b"]) (T : Blt mg) (Z : Zc K mg) (XC : Xc K mg) (Su : Sure P base)  : Callee P w K mg base 34 "_law_gcd" ["a", "b"] (sp__law_gcd K) := by
  have z_Derivation_start : FldOk K (clsA K "Derivation") "start" := ⟨Z.cls_Derivation, Z.f_Derivation_start⟩
  have z_Derivation_end : FldOk K (clsA K "Derivation") "end" := ⟨Z.cls_Derivation, Z.f_Derivation_end⟩
  have z_Derivation_steps : FldOk K (clsA K "Derivation") "steps" := ⟨Z.cls_Derivation, Z.f_Derivation_steps⟩
  have z_Derivation_back : FldOk K (clsA K "Derivation") "back" := ⟨Z.cls_Derivation, Z.f_Derivation_back⟩
  have z_Derivation__stage_rows : FldOk K (clsA K "Derivation") "_stage_rows" := ⟨Z.cls_Derivation, Z.f_Derivation__stage_rows⟩
  have z_Draft_start : FldOk K (clsA K "Draft") "start" := ⟨Z.cls_Draft, Z.f_Draft_start⟩
  have z_Draft_game : FldOk K (clsA K "Draft") "game" := ⟨Z.cls_Draft, Z.f_Draft_game⟩
  have z_Draft__done_steps : FldOk K (clsA K "Draft") "_done_steps" := ⟨Z.cls_Draft, Z.f_Draft__done_steps⟩
  have z_Draft__back_steps : FldOk K (clsA K "Draft") "_back_steps" := ⟨Z.cls_Draft, Z.f_Draft__back_steps⟩
  have z_Draft__rows_so_far : FldOk K (clsA K "Draft") "_rows_so_far" := ⟨Z.cls_Draft, Z.f_Draft__rows_so_far⟩
  refine ok_of h0 sc__law_gcd (fun vs M Q E h => sp__law_gcd_len h) (fun f cdv A outer s H E hr => ⟨_, (psscons (psfor PassesOwn.never rfl (pirng1 (by rfl) T.b_range (pacons pinT panil)) (pgname (i := 2) sc__law_gcd.nd) (psscons (psif (ptcmp (opEqK (K := K) (by exact hr.units)) (pv 1) pinT (nomark _)) (pssone (psret (pv 0))) pssnil)
      (pssone (pspar 0 1 rfl sc__law_gcd.nd (pacons (pv 1) (pacons (pop opMod (pcallTy cInt (by rfl) T.b_int (by decide +kernel) (pacons (pv 0) panil)) (pv 1)) panil)) rfl rfl (by decide) (fun _ h => ps_par (by rfl) sc__law_gcd.nd rfl rfl (by decide) rfl rfl h (by rfl))))))
      (pssone (psret (pv 0)))), fun vs M Q Ep h => ?_⟩)
  obtain ⟨a, b, rfl, hb, k⟩ := h
  walk_at "go"
  refine ⟨by decide, ?_⟩
  refine ⟨fun i σ M' => ∃ x y : Nat, σ = [some (.int x), some (.int y), none] ∧ M' = M ∧ Nat.gcd x y = Nat.gcd a b ∧ y * 2 ^ (i / 2) ≤ b ∧ (0 < i → y < x ∧ x * 2 ^ ((i - 1) / 2) ≤ b), ⟨_, _, .refl _, .refl _, a, b, rfl, rfl, rfl, by simp, fun z => absurd z (by decide)⟩, ?_, ?_, ?_⟩
  · intros; trivial
  · rintro i p σ M' hp ⟨x, y, rfl, rfl, hg, h1, h2⟩
    obtain ⟨hi, rfl⟩ := rng_get hp
    walk_at "on"
    refine br_dec (fun h => ?_) (fun h => ?_)
    · walk_at "on"
      have e : y = 0 := by omega
      subst e
      rw [Nat.gcd_zero_right] at hg
      refine ⟨_, .refl _, ?_⟩
      rw [hg]; exact k
    · walk_at "on"
      have e : (x : Int).fmod (y : Int) = ((x % y : Nat) : Int) := by
        rw [Int.fmod_eq_emod_of_nonneg _ (by omega)]; rfl
      rw [e]
      have y0 : 0 < y := by omega
      refine ⟨_, _, ?_, .refl _, y, x % y, rfl, rfl, ?_, gcd_step y0 h1 h2, fun _ => ⟨Nat.mod_lt _ y0, h1⟩⟩
      · walk_at "subs"
      · rw [← hg, Nat.gcd_comm y, ← Nat.gcd_rec, Nat.gcd_comm]
  · rintro σ M' ⟨x, y, rfl, rfl, hg, h1, h2⟩
    walk_at "on"
    have e : y = 0 := by
      rw [rng_len] at h1
      rcases Nat.eq_zero_or_pos y with h | h
      · exact h
      · have h3 : 1 * 2 ^ 200 ≤ y * 2 ^ (Int.toNat 400 / 2) := Nat.mul_le_mul h (Nat.le_refl _)
        omega
    subst e
    rw [Nat.gcd_zero_right] at hg
    refine ⟨_, .refl _, ?_⟩
    rw [hg]; exact k

/-- numbers that are not negative, and not great -/
def Small (ws : List Int) : Prop := ws.length ≤ 1000 ∧ ∀ w ∈ ws, 0 ≤ w ∧ w.natAbs < 2 ^ 200
def sp__law_reduced (K : Kf) : PSpec := fun vs M Q _ => ∃ (x : PV) (ws : List Int), vs = [x] ∧ SeqV K M x (ws.map PV.int) ∧ Small ws ∧ ∀ rs, IsRed ws rs → Q (.tup (rs.map PV.int)) M
theorem sp__law_reduced_len {K : Kf} {vs : List PV} {M : PHp} {Q : PVK} {E : PXK} (h : sp__law_reduced K vs M Q E) : vs.length = 1 := by
  obtain ⟨_, _, rfl, _⟩ := h; rfl
theorem gl_le {ws : List Int} {w : Int} (h : w ∈ ws) (h0 : w ≠ 0) : gl ws ≤ w.natAbs := by
  have := Int.natAbs_dvd_natAbs.mpr (gl_dvd w h)
  rw [Int.natAbs_natCast] at this
  exact Nat.le_of_dvd (by omega) this
theorem gl_small {ws : List Int} (h : ∀ w ∈ ws, 0 ≤ w ∧ w.natAbs < 2 ^ 200) : gl ws < 2 ^ 200 := by
  by_cases hz : gl ws = 0
  · omega
  · have : ∃ w ∈ ws, w ≠ 0 := by
      apply Classical.byContradiction
      intro hn
      apply hz
      have : ∀ w ∈ ws, w = 0 := fun w hw => Classical.byContradiction fun h => hn ⟨w, hw, h⟩
      clear hn hz h
      induction ws with
      | nil => rfl
      | cons x r ih =>
        rw [gl_cons, ih fun w hw => this w (List.mem_cons_of_mem _ hw), this x List.mem_cons_self]; rfl
    obtain ⟨w, hw, h0⟩ := this
    exact Nat.lt_of_le_of_lt (gl_le hw h0) (h w hw).2

theorem ok__law_reduced {P : Program} {w : World} {K : Kf} {mg : Str → Option Value} {base : Heap} (h0 : Here K mg "_law_reduced" s__law_reduced ["weights"]) (T : Blt mg) (Z : Zc K mg) (XC : Xc K mg) (Su : Sure P base) (C__law_gcd : Callee P w K mg base 34 "_law_gcd" ["a", "b"] (sp__law_gcd K)) : Callee P w K mg base 35 "_law_reduced" ["weights"] (sp__law_reduced K) := by
  have z_Derivation_start : FldOk K (clsA K "Derivation") "start" := ⟨Z.cls_Derivation, Z.f_Derivation_start⟩
  have z_Derivation_end : FldOk K (clsA K "Derivation") "end" := ⟨Z.cls_Derivation, Z.f_Derivation_end⟩
  have z_Derivation_steps : FldOk K (clsA K "Derivation") "steps" := ⟨Z.cls_Derivation, Z.f_Derivation_steps⟩
  have z_Derivation_back : FldOk K (clsA K "Derivation") "back" := ⟨Z.cls_Derivation, Z.f_Derivation_back⟩
  have z_Derivation__stage_rows : FldOk K (clsA K "Derivation") "_stage_rows" := ⟨Z.cls_Derivation, Z.f_Derivation__stage_rows⟩
  have z_Draft_start : FldOk K (clsA K "Draft") "start" := ⟨Z.cls_Draft, Z.f_Draft_start⟩
  have z_Draft_game : FldOk K (clsA K "Draft") "game" := ⟨Z.cls_Draft, Z.f_Draft_game⟩
  have z_Draft__done_steps : FldOk K (clsA K "Draft") "_done_steps" := ⟨Z.cls_Draft, Z.f_Draft__done_steps⟩
  have z_Draft__back_steps : FldOk K (clsA K "Draft") "_back_steps" := ⟨Z.cls_Draft, Z.f_Draft__back_steps⟩
  have z_Draft__rows_so_far : FldOk K (clsA K "Draft") "_rows_so_far" := ⟨Z.cls_Draft, Z.f_Draft__rows_so_far⟩
  refine ok_of h0 sc__law_reduced (fun vs M Q E h => sp__law_reduced_len h) (fun f cdv A outer s H E hr => ⟨_, (psscons (psset 1 sc__law_reduced.nd pinT)
      (psscut (psfor PassesOwn.never rfl (piseqK (K := K) (pv 0)) (pgname (i := 2) sc__law_reduced.nd) (pssone (psset 1 sc__law_reduced.nd (pcall C__law_gcd (by exact hr.mono (by first | decide | omega)) (pacons (pv 2) (pacons (pv 1) panil))))))
      (psscons (psif (ptcmp (opEqK (K := K) (by exact hr.units)) (pv 1) pinT (nomark _)) (pssone (psret (pcallTy (cTupleK (K := K)) (by rfl) T.b_tuple (by decide +kernel) (pacons (pv 0) panil)))) pssnil)
      (pssone (psret (pcallTy (cTupleK (K := K)) (by rfl) T.b_tuple (by decide +kernel) (pacons (plc1 2 rfl sc__law_reduced.nd (piseqK (K := K) (pv 0)) (blkOk_by (own := [("weight", 2)]) (N := ["weights", "common", "weight"]) (sc := defScope s__law_reduced) (by decide +kernel)) (by decide) (fun _ _ _ _ _ => pg_name (i := 2) sc__law_reduced.nd rfl (Or.inl rfl)) (fun _ _ _ _ _ => ptsnil) (fun _ _ _ _ _ => (pop (opFdiv Su (by exact hr.mono (by first | decide | omega))) (pv 2) (pv 1)))) panil))))))), fun vs M Q Ep h => ?_⟩)
  obtain ⟨x, ws, rfl, hx, ⟨hl, hsm⟩, k⟩ := h
  rcases hx with hx | ⟨a, hx, hr1⟩
  all_goals
    walk_at "go"
    refine ⟨fun σ M1 => σ = [some x, some (.int (gl ws : Nat)), none] ∧ M1 = M, ?_, ?_⟩
    · obtain ⟨y, hy⟩ : ∃ y, y = x := ⟨_, rfl⟩
      subst hx
      walk_at "on"
      refine ⟨fun i σ M1 => σ = [some y, some (.int (gl (ws.take i) : Nat)), none] ∧ M1 = M, ⟨_, _, .refl _, .refl _, by subst hy; rfl, rfl⟩, ?_, ?_, ?_⟩
      · rintro i σ M1 ⟨rfl, rfl⟩
        first | trivial | assumption
      · rintro i p σ M1 hp ⟨rfl, rfl⟩
        subst hy
        obtain ⟨z, hz, rfl⟩ := int_at hp
        have hmem := List.mem_of_getElem? hz
        obtain ⟨z0, zb⟩ := hsm z hmem
        obtain ⟨n, rfl⟩ : ∃ n : Nat, z = (n : Int) := ⟨z.toNat, by omega⟩
        walk_at "on"
        refine ⟨n, gl (ws.take i), rfl, gl_small fun w hw => hsm w (List.mem_of_mem_take hw), ?_⟩
        walk_at "on"
        refine ⟨_, _, ?_, .refl _, rfl, rfl⟩
        rw [take_succ' hz, gl_snoc, Int.natAbs_natCast, Nat.gcd_comm]
        walk_at "subs"
      · rintro σ M1 ⟨rfl, rfl⟩
        subst hy
        refine ⟨_, _, .refl _, .refl _, ?_, rfl⟩
        rw [List.length_map, List.take_length]
    · rintro σ M1 ⟨rfl, rfl⟩
      subst hx
      walk_at "on"
      refine br_dec (fun h0 => ?_) (fun h0 => ?_)
      · walk_at "on"
        exact ⟨_, .refl _, k ws (.zero (gl_zero (by omega)) rfl)⟩
      · walk_at "on"
        intro Dl hD
        refine ⟨fun i acc M' => M' = updM M1 Dl (.lst acc) ∧ acc = ((ws.take i).map fun w => PV.int (w.fdiv (gl ws : Nat))), ⟨_, .refl _, rfl, rfl⟩, ?_, ?_, ?_⟩
        · rintro i acc M' ⟨rfl, rfl⟩
          first | trivial | exact rdL.sub (by assumption) (.new hD)
        · rintro i p acc M' hp ⟨rfl, rfl⟩
          obtain ⟨z, hz, rfl⟩ := int_at hp
          have hi := lt_of_get hz
          walk_at "on"
          refine ⟨updM_same, sz_of (m := 1000) (by rw [List.length_map, List.length_take]; omega) (by decide), _, .refl _, updM_updM, ?_⟩
          rw [take_succ' hz, List.map_append]; rfl
        · rintro acc M' ⟨rfl, rfl⟩
          walk_at "on"
          refine ⟨M1, .new hD, ?_⟩
          rw [List.length_map, List.take_length]
          have := k _ (isRed_of (ws := ws) (by omega))
          rw [List.map_map] at this
          exact this

def lowC : List Nat := (List.range 26).map (97 + ·)
def signC : List Nat := lowC ++ (List.range 10).map (48 + ·)
/-- a name as the law draws one -/
structure Nm (x : Str) : Prop where
  ex : ∃ c r, x.cps.toList = c :: r ∧ c ∈ lowC ∧ (∀ d ∈ r, d ∈ signC) ∧ r.length ≤ 5
theorem rdL.keep {K : Kf} {M M' : PHp} {u s : Addr} {l : List PV} (h : rdL K M u l) (n : u ≠ s) (k : Keep s M M') : rdL K M' u l := by
  rcases h with h | h | h
  · exact .inl (k _ _ n h)
  · exact .inr (.inl (k _ _ n h))
  · exact .inr (.inr h)
theorem at_mem {α : Type} {l : List α} {i : Int} (h0 : 0 ≤ i) (h1 : i < (l.length : Int)) : ∃ c, c ∈ l ∧ l[i.toNat]? = some c ∧ atI l i = some c := by
  obtain ⟨j, rfl⟩ : ∃ j : Nat, i = (j : Int) := ⟨i.toNat, by omega⟩
  have h : j < l.length := by omega
  exact ⟨l[j], List.getElem_mem h, List.getElem?_eq_getElem h, atI_nat (List.getElem?_eq_getElem h)⟩
theorem let_cps : ("abcdefghijklmnopqrstuvwxyz" : Str).cps.toList = lowC := by decide +kernel
theorem sig_cps : (("abcdefghijklmnopqrstuvwxyz" : Str) ++ ("0123456789" : Str)).cps.toList = signC := by decide +kernel
theorem cps_app (x y : Str) : (x ++ y).cps.toList = x.cps.toList ++ y.cps.toList := Array.toList_append
theorem str_len (x : Str) : x.length = x.cps.toList.length := rfl
theorem str_len_le {x : Str} {n : Nat} (h : x.cps.toList.length ≤ n) (hn : n ≤ 1000) : x.length ≤ sizeLine := by rw [str_len, sizeLine_eq]; omega
theorem app_len {x y : Str} {n m : Nat} (h : x.cps.toList.length ≤ n) (h2 : y.cps.toList.length ≤ m) (hn : n + m ≤ 1000) : x.length + y.length ≤ sizeLine := by rw [str_len, str_len, sizeLine_eq]; omega
/-- the name's end -/
def numS (k : Nat) : Str := Str.ofString (toString (k : Int))
theorem num_ok : ∀ k < 64, (numS k).cps.toList.length ≤ 2 ∧ ∀ d ∈ (numS k).cps.toList, d ∈ signC := by decide +kernel
theorem num_ne : ∀ i < 64, ∀ j < 64, numS i = numS j → i = j := by decide +kernel
theorem app_inj {x y z : Str} (h : x ++ y = x ++ z) : y = z := by
  have h2 := congrArg (fun s : Str => s.cps.toList) h
  simp only [cps_app] at h2
  have h3 := List.append_cancel_left h2
  cases y; cases z
  simp only [Str.mk.injEq]
  exact Array.toList_inj.mp h3
/-- the base, then base0, base1, .. -/
def cand (b : Str) (i : Nat) : Str := match i with | 0 => b | i + 1 => b ++ numS i
theorem cand_inj {b : Str} {i j : Nat} (hi : i ≤ 64) (hj : j ≤ 64) (h : cand b i = cand b j) : i = j := by
  have key : ∀ k, k < 64 → b ≠ b ++ numS k := fun k hk e => by
    have h2 := congrArg (fun s : Str => s.cps.toList.length) e
    simp only [cps_app, List.length_append] at h2
    have : ∀ k < 64, 0 < (numS k).cps.toList.length := by decide +kernel
    have := this k hk
    omega
  match i, j with
  | 0, 0 => rfl
  | 0, j + 1 => exact absurd h (key j (by omega))
  | i + 1, 0 => exact absurd h.symm (key i (by omega))
  | i + 1, j + 1 => rw [num_ne i (by omega) j (by omega) (app_inj h)]
theorem pigeon {α : Type} [BEq α] [LawfulBEq α] (f : Nat → α) : ∀ (n : Nat) (us : List α), (∀ i j, i < n → j < n → f i = f j → i = j) → (∀ i, i < n → f i ∈ us) → n ≤ us.length
  | 0, _, _, _ => Nat.zero_le _
  | n + 1, us, inj, h => by
    have hm := h n (Nat.lt_succ_self n)
    have := pigeon f n (us.erase (f n)) (fun i j hi hj e => inj i j (by omega) (by omega) e) fun i hi => by
      rw [List.mem_erase_of_ne]
      · exact h i (by omega)
      · intro e
        have := inj i n (by omega) (by omega) e
        omega
    rw [List.length_erase_of_mem hm] at this
    have := List.length_pos_of_mem hm
    omega
/-- one of the first names is not used -/
theorem cand_free {b : Str} {us : List Str} {n : Nat} (hn : us.length < n) (h64 : n ≤ 64) (h : ∀ i < n, cand b i ∈ us) : False := by
  have := pigeon (cand b) n us (fun i j hi hj e => cand_inj (by omega) (by omega) e) h
  omega
structure Nb (x : Str) : Prop where
  ex : ∃ c r, x.cps.toList = c :: r ∧ c ∈ lowC ∧ (∀ d ∈ r, d ∈ signC) ∧ r.length ≤ 3
theorem Nb.cand {b : Str} (h : Nb b) {i : Nat} (hi : i ≤ 64) : Nm (cand b i) := by
  obtain ⟨c, r, e, h1, h2, h3⟩ := h.ex
  cases i with
  | zero => exact ⟨c, r, e, h1, h2, by omega⟩
  | succ i =>
    obtain ⟨n1, n2⟩ := num_ok i (by omega)
    refine ⟨c, r ++ (numS i).cps.toList, ?_, h1, fun d hd => ?_, ?_⟩
    · show (b ++ numS i).cps.toList = _
      rw [cps_app, e]; rfl
    · rcases List.mem_append.mp hd with q | q
      · exact h2 d q
      · exact n2 d q
    · rw [List.length_append]; omega
def sp__law_name (K : Kf) : PSpec := fun vs M Q _ => ∃ (a s u : Addr) (ns : List Int) (us : List Str), vs = [.ref a, .ref s, .ref u] ∧ Env K M a s ns ∧ rdL K M u (us.map PV.str) ∧ u ≠ s ∧ us.length ≤ 62 ∧
  ∀ x M', Nm x → x ∉ us → Env K M' a s ns → Keep s M M' → Q (.str x) M'
theorem sp__law_name_len {K : Kf} {vs : List PV} {M : PHp} {Q : PVK} {E : PXK} (h : sp__law_name K vs M Q E) : vs.length = 3 := by
  obtain ⟨_, _, _, _, _, rfl, _⟩ := h; rfl
theorem names6 {r : Int} (h0 : 0 ≤ r) (h1 : r < 6) : ∃ x : Str, atI [PV.str "p0", PV.str "p1", PV.str "p2", PV.str "m0", PV.str "m1", PV.str "m2"] r = some (.str x) ∧ Nb x := by
  obtain h | h | h | h | h | h : r = 0 ∨ r = 1 ∨ r = 2 ∨ r = 3 ∨ r = 4 ∨ r = 5 := by omega
  all_goals
    subst h
    refine ⟨_, rfl, ⟨_, _, rfl, ?_, ?_, ?_⟩⟩ <;> decide +kernel

theorem ok__law_name {P : Program} {w : World} {K : Kf} {mg : Str → Option Value} {base : Heap} (h0 : Here K mg "_law_name" s__law_name ["script", "source", "used"]) (T : Blt mg) (Z : Zc K mg) (XC : Xc K mg) (Su : Sure P base) (C__law_draw : Callee P w K mg base 34 "_law_draw" ["script", "source", "limit"] (sp__law_draw K)) : Callee P w K mg base 35 "_law_name" ["script", "source", "used"] (sp__law_name K) := by
  have z_Derivation_start : FldOk K (clsA K "Derivation") "start" := ⟨Z.cls_Derivation, Z.f_Derivation_start⟩
  have z_Derivation_end : FldOk K (clsA K "Derivation") "end" := ⟨Z.cls_Derivation, Z.f_Derivation_end⟩
  have z_Derivation_steps : FldOk K (clsA K "Derivation") "steps" := ⟨Z.cls_Derivation, Z.f_Derivation_steps⟩
  have z_Derivation_back : FldOk K (clsA K "Derivation") "back" := ⟨Z.cls_Derivation, Z.f_Derivation_back⟩
  have z_Derivation__stage_rows : FldOk K (clsA K "Derivation") "_stage_rows" := ⟨Z.cls_Derivation, Z.f_Derivation__stage_rows⟩
  have z_Draft_start : FldOk K (clsA K "Draft") "start" := ⟨Z.cls_Draft, Z.f_Draft_start⟩
  have z_Draft_game : FldOk K (clsA K "Draft") "game" := ⟨Z.cls_Draft, Z.f_Draft_game⟩
  have z_Draft__done_steps : FldOk K (clsA K "Draft") "_done_steps" := ⟨Z.cls_Draft, Z.f_Draft__done_steps⟩
  have z_Draft__back_steps : FldOk K (clsA K "Draft") "_back_steps" := ⟨Z.cls_Draft, Z.f_Draft__back_steps⟩
  have z_Draft__rows_so_far : FldOk K (clsA K "Draft") "_rows_so_far" := ⟨Z.cls_Draft, Z.f_Draft__rows_so_far⟩
  refine ok_of h0 sc__law_name (fun vs M Q E h => sp__law_name_len h) (fun f cdv A outer s H E hr => ⟨_, (psscons (psset 3 sc__law_name.nd pstr)
      (psscons (psset 4 sc__law_name.nd (pop opAdd (pv 3) pstr))
      (psscons (psset 5 sc__law_name.nd (pixK (K := K) (pv 3) (pcall C__law_draw (by exact hr.mono (by first | decide | omega)) (pacons (pv 0) (pacons (pv 1) (pacons pinT panil))))))
      (psscut (psfor PassesOwn.never rfl (pirng1 (by rfl) T.b_range (pacons (pcall C__law_draw (by exact hr.mono (by first | decide | omega)) (pacons (pv 0) (pacons (pv 1) (pacons pinT panil)))) panil)) (pgname (i := 6) sc__law_name.nd) (pssone (psset 5 sc__law_name.nd (pop opAdd (pv 5) (pixK (K := K) (pv 4) (pcall C__law_draw (by exact hr.mono (by first | decide | omega)) (pacons (pv 0) (pacons (pv 1) (pacons pinT panil)))))))))
      (psscut (psif (ptcmp (opEqK (K := K) (by exact hr.units)) (pcall C__law_draw (by exact hr.mono (by first | decide | omega)) (pacons (pv 0) (pacons (pv 1) (pacons pinT panil)))) pinT (nomark _)) (pssone (psset 5 sc__law_name.nd (pixK (K := K) (plst (pacons pstr (pacons pstr (pacons pstr (pacons pstr (pacons pstr (pacons pstr panil))))))) (pcall C__law_draw (by exact hr.mono (by first | decide | omega)) (pacons (pv 0) (pacons (pv 1) (pacons pinT panil))))))) pssnil)
      (psscons (psset 7 sc__law_name.nd (pv 5))
      (psscons (psfor PassesOwn.never rfl (pirng1 (by rfl) T.b_range (pacons (pop opAdd (pcallB (cLenK (K := K)) (by rfl) T.b_len (by decide +kernel) (pacons (pv 2) panil)) pinT) panil)) (pgname (i := 6) sc__law_name.nd) (pssone (psif (ptcmp (opIn (K := K)) (pv 5) (pv 2) rfl) (pssone (psset 5 sc__law_name.nd (pop opAdd (pv 7) (pcallTy cStr (by rfl) T.b_str (by decide +kernel) (pacons (pv 6) panil))))) pssnil)))
      (pssone (psret (pv 5)))))))))), fun vs M Q Ep h => ?_⟩)
  obtain ⟨a, s, u, ns, us, rfl, e, hu, us_ne, hul, k⟩ := h
  walk_at "go"
  refine ⟨by rw [sizeLine_eq]; decide +kernel, ?_⟩
  walk_at "on"
  refine ⟨a, s, ns, 26, rfl, e, by decide, by decide, fun r M1 h0 h1 e1 k1 => ?_⟩
  walk_at "on"
  obtain ⟨c, hc1, hc2, hc3⟩ := at_mem (l := ("abcdefghijklmnopqrstuvwxyz" : Str).cps.toList) h0 (by rw [let_cps]; exact h1)
  rw [let_cps] at hc1
  refine ⟨by rw [sizeLine_eq]; decide +kernel, c, hc3, ?_⟩
  walk_at "on"
  refine ⟨fun σ M1 => ∃ x, σ = [some (.ref a), some (.ref s), some (.ref u), none, none, some (.str x), none, none] ∧ Env K M1 a s ns ∧ Keep s M M1 ∧ Nb x, ?_, ?_⟩
  · refine ⟨a, s, ns, 3, rfl, e1, by decide, by decide, fun r2 M2 h20 h21 e2 k2 => ?_⟩
    walk_at "on"
    refine ⟨by omega, ?_⟩
    refine ⟨fun i σ M' => ∃ x r, σ = [some (.ref a), some (.ref s), some (.ref u), none, some (.str (("abcdefghijklmnopqrstuvwxyz" : Str) ++ ("0123456789" : Str))), some (.str x), none, none] ∧ Env K M' a s ns ∧ Keep s M M' ∧ x.cps.toList = c :: r ∧ (∀ d ∈ r, d ∈ signC) ∧ r.length ≤ i, ⟨_, _, ?_, .refl _, (⟨#[c]⟩ : Str), [], rfl, e2, k1.trans k2, rfl, by simp, Nat.zero_le _⟩, ?_, ?_, ?_⟩
    · walk_at "subs"
    · intros; trivial
    · rintro i p σ M' hp ⟨x, r, rfl, e3, k3, hx, hr1, hr2⟩
      obtain ⟨hi, rfl⟩ := rng_get hp
      walk_at "on"
      refine ⟨a, s, ns, 36, rfl, e3, by decide, by decide, fun r3 M3 h30 h31 e4 k4 => ?_⟩
      walk_at "on"
      obtain ⟨d, hd1, hd2, hd3⟩ := at_mem (l := (("abcdefghijklmnopqrstuvwxyz" : Str) ++ ("0123456789" : Str)).cps.toList) h30 (by rw [sig_cps]; exact h31)
      rw [sig_cps] at hd1
      refine ⟨by rw [sizeLine_eq]; decide +kernel, d, hd3, ?_⟩
      walk_at "on"
      refine ⟨app_len (n := 10) (m := 1) (by rw [hx, List.length_cons]; omega) (Nat.le_refl _) (by decide), ?_⟩
      walk_at "on"
      refine ⟨_, _, ?_, .refl _, x ++ ⟨#[d]⟩, r ++ [d], rfl, e4, k3.trans k4, by rw [cps_app, hx]; rfl, ?_, by rw [List.length_append, List.length_singleton]; omega⟩
      · walk_at "subs"
      · intro z hz
        rcases List.mem_append.mp hz with q | q
        · exact hr1 z q
        · rw [List.mem_singleton.mp q]; exact hd1
    · rintro σ M' ⟨x, r, rfl, e3, k3, hx, hr1, hr2⟩
      rw [rng_len] at hr2
      refine ⟨_, _, ?_, .refl _, x, rfl, e3, k3, ⟨c, r, hx, hc1, hr1, by omega⟩⟩
      walk_at "subs"
  · rintro σ M1 ⟨x, rfl, e1, k1, nb⟩
    refine ⟨fun σ M1 => ∃ x, σ = [some (.ref a), some (.ref s), some (.ref u), none, none, some (.str x), none, none] ∧ Env K M1 a s ns ∧ Keep s M M1 ∧ Nb x, ?_, ?_⟩
    · walk_at "on"
      refine ⟨a, s, ns, 6, rfl, e1, by decide, by decide, fun r M2 h0 h1 e2 k2 => ?_⟩
      walk_at "on"
      refine br_dec (fun h => ?_) (fun h => ?_)
      · walk_at "on"
        intro q hq
        walk_at "on"
        refine ⟨a, s, ns, 6, rfl, e2.new hq, by decide, by decide, fun r3 M3 h30 h31 e3 k3 => ?_⟩
        have hq3 := k3 q _ (e2.src_ne hq) updM_same
        obtain ⟨y, hy, nby⟩ := names6 h30 h31
        walk_at "on"
        exact ⟨_, _, .refl _, .refl _, y, rfl, e3, (k1.trans k2).trans ((Keep.new hq).trans k3), nby⟩
      · walk_at "on"
        exact ⟨_, _, .refl _, .refl _, x, rfl, e2, k1.trans k2, nb⟩
    · rintro σ M2 ⟨x, rfl, e2, k2, nb⟩
      have hu2 := hu.keep us_ne k2
      walk_at "on"
      refine ⟨by rw [List.length_map]; omega, ?_⟩
      refine ⟨fun i σ M' => ∃ j, σ = [some (.ref a), some (.ref s), some (.ref u), none, none, some (.str (cand x j)), none, some (.str x)] ∧ M' = M2 ∧ j ≤ i ∧ (∀ l < j, cand x l ∈ us) ∧ (j = i ∨ cand x j ∉ us), ⟨_, _, .refl _, .refl _, 0, rfl, rfl, Nat.le_refl _, by simp, .inl rfl⟩, ?_, ?_, ?_⟩
      · intros; trivial
      · rintro i p σ M' hp ⟨j, rfl, rfl, h1, h2, h3⟩
        obtain ⟨hi, rfl⟩ := rng_get hp
        rw [List.length_map] at hi
        walk_at "on"
        refine br_dec (fun h => ?_) (fun h => ?_)
        · have e3 : j = i := by rcases h3 with h3 | h3; exact h3; exact absurd h h3
          subst e3
          walk_at "on"
          refine ⟨by simp; exact Nat.lt_of_le_of_lt (Nat.log2_le_self j) (by omega), ?_⟩
          walk_at "on"
          rw [show (0 : Int) + (j : Int) = (j : Int) by omega]
          have hj : j < 64 := by omega
          obtain ⟨c, r, ex, _, _, er⟩ := nb.ex
          refine ⟨app_len (n := 4) (m := 2) (by rw [ex, List.length_cons]; omega) (num_ok j hj).1 (by decide), ?_⟩
          walk_at "on"
          refine ⟨_, _, ?_, .refl _, j + 1, rfl, rfl, Nat.le_refl _, fun l hl => ?_, .inl rfl⟩
          · walk_at "subs"
          · by_cases q : l = j
            · subst q; exact h
            · exact h2 l (by omega)
        · walk_at "on"
          refine ⟨_, _, ?_, .refl _, j, rfl, rfl, by omega, h2, .inr h⟩
          walk_at "subs"
      · rintro σ M' ⟨j, rfl, rfl, h1, h2, h3⟩
        rw [rng_len, List.length_map] at h1 h3
        walk_at "on"
        refine ⟨_, .refl _, k _ _ (nb.cand (i := j) (by omega)) ?_ e2 k2⟩
        intro hin
        rcases h3 with h3 | h3
        · exact cand_free (b := x) (us := us) (n := us.length + 1) (by omega) (by omega) fun l hl => h2 l (by omega)
        · exact h3 hin

/-! rows of sets -/
structure Row where
  nm : Str
  ow : Nat
  ws : List Int
def Row.pv (r : Row) : PV := .tup [.str r.nm, .int (r.ow : Nat), .tup (r.ws.map PV.int)]
abbrev rowsV (rs : List Row) : PV := .tup (rs.map Row.pv)
abbrev namesOf (rs : List Row) : List Str := rs.map Row.nm
/-- less by the signs -/
abbrev lts (x y : Str) : Prop := x.cps.toList < y.cps.toList
instance (x y : Str) : Decidable (lts x y) := inferInstanceAs (Decidable (x.cps.toList < y.cps.toList))
theorem lts_irrefl (x : Str) : ¬ lts x x := List.lt_irrefl _
theorem lts_trans {x y z : Str} (h1 : lts x y) (h2 : lts y z) : lts x z := List.lt_trans h1 h2
theorem str_ext {x y : Str} (h : x.cps.toList = y.cps.toList) : x = y := by
  cases x; cases y
  simp only [Str.mk.injEq]
  exact Array.toList_inj.mp h
theorem lts_total {x y : Str} (h : x ≠ y) (h2 : ¬ lts x y) : lts y x := by
  have h3 : y.cps.toList ≤ x.cps.toList := List.not_lt.mp h2
  exact Std.lt_of_le_of_ne h3 fun e => h (str_ext e.symm)
def SortedN (rs : List Row) : Prop := rs.Pairwise fun a b => lts a.nm b.nm
theorem SortedN.nodup {rs : List Row} (h : SortedN rs) : (namesOf rs).Nodup := by
  rw [List.nodup_iff_pairwise_ne, List.pairwise_map]
  exact h.imp fun {a b} q (e : a.nm = b.nm) => by rw [e] at q; exact lts_irrefl _ q
theorem strict_eq {α : Type} {R : α → α → Prop} (asym : ∀ x y, R x y → ¬ R y x) : ∀ {l m : List α}, l.Perm m → l.Pairwise R → m.Pairwise R → l = m
  | [], m, h, _, _ => (List.Perm.nil_eq h)
  | x :: l, [], h, _, _ => by have := h.length_eq; simp at this
  | x :: l, y :: m, h, h1, h2 => by
    have hx : x ∈ y :: m := h.mem_iff.mp List.mem_cons_self
    have hy : y ∈ x :: l := h.mem_iff.mpr List.mem_cons_self
    have p1 := List.pairwise_cons.mp h1
    have p2 := List.pairwise_cons.mp h2
    have e : x = y := by
      rcases List.mem_cons.mp hx with e | e
      · exact e
      rcases List.mem_cons.mp hy with e' | e'
      · exact e'.symm
      exact absurd (p1.1 y e') (asym _ _ (p2.1 x e))
    subst e
    rw [strict_eq asym ((List.perm_cons x).mp h) p1.2 p2.2]
theorem SortedN.eq {rs qs : List Row} (h : rs.Perm qs) (h1 : SortedN rs) (h2 : SortedN qs) : rs = qs := strict_eq (fun _ _ a b => lts_irrefl _ (lts_trans a b)) h h1 h2
theorem row_alike (a b : Row) : PySem.W.alike (toD a.pv) (toD b.pv) = true := by
  have key : ∀ xs ys : List Int, PySem.W.alikeAll (toDs (xs.map PV.int)) (toDs (ys.map PV.int)) = true := by
    intro xs
    induction xs with
    | nil => intro ys; cases ys <;> rfl
    | cons x xs ih =>
      intro ys
      cases ys with
      | nil => rfl
      | cons y ys => show (true && PySem.W.alikeAll _ _) = true; rw [ih ys]; rfl
  show (true && (true && (PySem.W.alikeAll (toDs (a.ws.map PV.int)) (toDs (b.ws.map PV.int)) && true))) = true
  rw [key]; rfl
theorem row_lt {a b : Row} (h : a.nm ≠ b.nm) : PySem.W.dataLt (toD a.pv) (toD b.pv) = decide (lts a.nm b.nm) := by
  have e : PyData.eqv (.str a.nm) (.str b.nm) = false := by
    show (a.nm == b.nm) = false
    exact beq_eq_false_iff_ne.mpr h
  show PySem.W.dataLt (.tuple (.str a.nm :: _)) (.tuple (.str b.nm :: _)) = _
  rw [PySem.W.dataLt_tuple, PySem.W.dataLt_cons rfl, e, if_neg Bool.false_ne_true, PySem.W.dataLt_str]
theorem row_pure {n : Nat} (r : Row) (h : r.ws.length ≤ 16777216) : PureD (n + 3) r.pv := .tup (by show 3 ≤ 16777216; decide) fun x hx => by
  rcases List.mem_cons.mp hx with rfl | hx
  · exact .str _
  rcases List.mem_cons.mp hx with rfl | hx
  · exact .int _
  rcases List.mem_cons.mp hx with rfl | hx
  · refine .tup (by rw [List.length_map]; exact h) fun y hy => ?_
    obtain ⟨z, _, rfl⟩ := List.mem_map.mp hy
    exact .int _
  cases hx
/-- rows sorted: by their names -/
theorem sort_rows {rs : List Row} (h : (namesOf rs).Nodup) : ∃ qs, (rs.map Row.pv).mergeSort (PySem.W.dataLe false toD) = qs.map Row.pv ∧ qs.Perm rs ∧ SortedN qs := by
  refine ⟨rs.mergeSort (PySem.W.dataLe false fun r => toD r.pv), (List.map_mergeSort (f := Row.pv) (l := rs) (r := PySem.W.dataLe false fun r => toD r.pv) (s := PySem.W.dataLe false toD) (fun _ _ _ _ => rfl)).symm, List.mergeSort_perm _ _, ?_⟩
  have tl := PySem.W.sortLe_total (PyProof.Rows.listOrd PyProof.Rows.itemOrd) false fun r : Row => PySem.W.keyToks (toD r.pv)
  have pw : (rs.mergeSort (PySem.W.dataLe false fun r => toD r.pv)).Pairwise (fun a b => PySem.W.dataLe false (fun r : Row => toD r.pv) a b = true) := List.pairwise_mergeSort tl.trans (fun a b => Bool.or_eq_true_iff.mpr (tl.total a b)) rs
  have nd : (namesOf (rs.mergeSort (PySem.W.dataLe false fun r => toD r.pv))).Nodup := ((List.mergeSort_perm rs _).map Row.nm).nodup_iff.mpr h
  rw [List.nodup_iff_pairwise_ne, List.pairwise_map] at nd
  refine (pw.and nd).imp fun {a b} ⟨h1, h2⟩ => ?_
  have h3 : (!PySem.W.dataLt (toD b.pv) (toD a.pv)) = true := h1
  rw [row_lt (Ne.symm h2), Bool.not_eq_true', decide_eq_false_iff_not] at h3
  exact lts_total (Ne.symm h2) h3
theorem rows_sortable (rs : List Row) : PySem.W.AllAlike ((rs.map Row.pv).map toD) ∧ PySem.W.Sortable ((rs.map Row.pv).map toD) := by
  rw [List.map_map]
  exact ⟨PySem.W.AllAlike.of (enc := fun r : Row => toD r.pv) fun a b => row_alike a b, PySem.W.Sortable.tuples (enc := fun r : Row => toD r.pv) fun r => ⟨_, _, rfl⟩⟩
theorem rows_pure {rs : List Row} (hl : ∀ r ∈ rs, r.ws.length ≤ 1000) : ∀ x ∈ rs.map Row.pv, PureD 40 x := fun x hx => by
  obtain ⟨r, hr, rfl⟩ := List.mem_map.mp hx
  exact row_pure r (Nat.le_trans (hl r hr) (by decide))
theorem row_at {rs : List Row} {i : Nat} {p : PV} (h : (rs.map Row.pv)[i]? = some p) : ∃ r, rs[i]? = some r ∧ p = r.pv := by
  rw [List.getElem?_map] at h
  cases e : rs[i]? with
  | none => rw [e] at h; cases h
  | some z => rw [e] at h; exact ⟨z, rfl, (Option.some.inj h).symm⟩
theorem len_two {α : Type} (b : α → Bool) : ∀ l : List α, (l.filter b).length + (l.filter fun x => !b x).length = l.length
  | [] => rfl
  | x :: l => by
    have := len_two b l
    by_cases h : b x = true
    · rw [List.filter_cons_of_pos h, List.filter_cons_of_neg (by simp [h]), List.length_cons, List.length_cons]; omega
    · rw [List.filter_cons_of_neg h, List.filter_cons_of_pos (by simpa using h), List.length_cons, List.length_cons]; omega
theorem cut_to {α : Type} (l : List α) (i : Nat) : cutL l none (some (i : Int)) = l.take i := by
  unfold cutL
  rw [HT.sIx_none, HT.sIx_nat, List.drop_zero, Nat.sub_zero]
  by_cases h : i ≤ l.length
  · rw [Nat.min_eq_left h]
  · have h := Nat.le_of_not_le h
    rw [Nat.min_eq_right h, List.take_of_length_le (Nat.le_refl _), List.take_of_length_le h]

/-- a filter told by the places -/
theorem flt_list {α β : Type} (l : List α) (d : α) (b : α → Bool) (f : α → β) : ((List.range l.length).filter fun i => b (l.getD i d)).map (fun i => f (l.getD i d)) = (l.filter b).map f := by
  have e : l = mk l.length fun i => l.getD i d := mk_of l d
  conv => rhs; rw [e]
  unfold mk
  rw [List.filter_map, List.map_map]
  rfl
theorem getD_at {α : Type} {l : List α} {i : Nat} {x d : α} (h : l[i]? = some x) : l.getD i d = x := by
  rw [List.getD_eq_getElem?_getD, h]; rfl
abbrev r0 : Row := ⟨⟨#[]⟩, 0, []⟩
theorem find_row {rs : List Row} (nd : (namesOf rs).Nodup) {r : Row} (h : r ∈ rs) : rs.find? (fun q => decide (q.nm = r.nm)) = some r := by
  induction rs with
  | nil => cases h
  | cons x l ih =>
    have nd2 := List.nodup_cons.mp (show (x.nm :: namesOf l).Nodup from nd)
    rcases List.mem_cons.mp h with rfl | h
    · rw [List.find?_cons, decide_eq_true rfl]
    · have ne : x.nm ≠ r.nm := fun e => nd2.1 (e ▸ List.mem_map_of_mem h)
      rw [List.find?_cons, decide_eq_false ne]
      exact ih nd2.2 h
theorem mk_list {α β : Type} (l : List α) (d : α) (f : α → β) : mk l.length (fun i => f (l.getD i d)) = l.map f := by
  conv => rhs; rw [mk_of l d]
  rw [mk_map]

def sp_row_of (K : Kf) : PSpec := fun vs M Q _ => ∃ (rs : List Row) (t : PV) (x : Str), vs = [.tup [rowsV rs, t], .str x] ∧ (∀ r, rs.find? (fun r => decide (r.nm = x)) = some r → Q r.pv M) ∧ (rs.find? (fun r => decide (r.nm = x)) = none → Q .non M)
theorem sp_row_of_len {K : Kf} {vs : List PV} {M : PHp} {Q : PVK} {E : PXK} (h : sp_row_of K vs M Q E) : vs.length = 2 := by
  obtain ⟨_, _, _, rfl, _⟩ := h; rfl
theorem find_at {α : Type} {f : α → Bool} : ∀ {l : List α} {i : Nat} {x : α}, l[i]? = some x → f x = true → (∀ (j : Nat) y, j < i → l[j]? = some y → f y = false) → l.find? f = some x
  | [], _, _, h, _, _ => by simp at h
  | a :: l, 0, x, h, h1, _ => by
    simp at h; subst h
    rw [List.find?_cons, h1]
  | a :: l, i + 1, x, h, h1, h2 => by
    have ha : f a = false := h2 0 a (by omega) rfl
    rw [List.find?_cons, ha]
    exact find_at (by simpa using h) h1 fun j y hj hy => h2 (j + 1) y (by omega) (by simpa using hy)
theorem find_no {α : Type} {f : α → Bool} {l : List α} (h : ∀ (j : Nat) y, l[j]? = some y → f y = false) : l.find? f = none := by
  rw [List.find?_eq_none]
  intro x hx
  obtain ⟨i, hi⟩ := List.getElem?_of_mem hx
  rw [h i x hi]; exact Bool.false_ne_true

theorem ok_row_of {P : Program} {w : World} {K : Kf} {mg : Str → Option Value} {base : Heap} (h0 : Here K mg "row_of" s_row_of ["game", "name"]) (T : Blt mg) (Z : Zc K mg) (XC : Xc K mg) (Su : Sure P base)  : Callee P w K mg base 34 "row_of" ["game", "name"] (sp_row_of K) := by
  have z_Derivation_start : FldOk K (clsA K "Derivation") "start" := ⟨Z.cls_Derivation, Z.f_Derivation_start⟩
  have z_Derivation_end : FldOk K (clsA K "Derivation") "end" := ⟨Z.cls_Derivation, Z.f_Derivation_end⟩
  have z_Derivation_steps : FldOk K (clsA K "Derivation") "steps" := ⟨Z.cls_Derivation, Z.f_Derivation_steps⟩
  have z_Derivation_back : FldOk K (clsA K "Derivation") "back" := ⟨Z.cls_Derivation, Z.f_Derivation_back⟩
  have z_Derivation__stage_rows : FldOk K (clsA K "Derivation") "_stage_rows" := ⟨Z.cls_Derivation, Z.f_Derivation__stage_rows⟩
  have z_Draft_start : FldOk K (clsA K "Draft") "start" := ⟨Z.cls_Draft, Z.f_Draft_start⟩
  have z_Draft_game : FldOk K (clsA K "Draft") "game" := ⟨Z.cls_Draft, Z.f_Draft_game⟩
  have z_Draft__done_steps : FldOk K (clsA K "Draft") "_done_steps" := ⟨Z.cls_Draft, Z.f_Draft__done_steps⟩
  have z_Draft__back_steps : FldOk K (clsA K "Draft") "_back_steps" := ⟨Z.cls_Draft, Z.f_Draft__back_steps⟩
  have z_Draft__rows_so_far : FldOk K (clsA K "Draft") "_rows_so_far" := ⟨Z.cls_Draft, Z.f_Draft__rows_so_far⟩
  refine ok_of h0 sc_row_of (fun vs M Q E h => sp_row_of_len h) (fun f cdv A outer s H E hr => ⟨_, (psscons (psfor PassesOwn.never rfl (piseqK (K := K) (pixK (K := K) (pv 0) pinT)) (pgname (i := 2) sc_row_of.nd) (pssone (psif (ptcmp (opEqK (K := K) (by exact hr.units)) (pixK (K := K) (pv 2) pinT) (pv 1) (nomark _)) (pssone (psret (pv 2))) pssnil)))
      (pssone (psret pnon))), fun vs M Q Ep h => ?_⟩)
  obtain ⟨rs, t, x, rfl, k1, k2⟩ := h
  walk_at "go"
  refine ⟨fun i σ M1 => σ = [some (.tup [rowsV rs, t]), some (.str x), none] ∧ M1 = M ∧ ∀ (j : Nat) y, j < i → rs[j]? = some y → y.nm ≠ x, ⟨_, _, .refl _, .refl _, rfl, rfl, fun j _ hj => absurd hj (by omega)⟩, ?_, ?_, ?_⟩
  · intros; trivial
  · rintro i p σ M1 hp ⟨rfl, rfl, hno⟩
    obtain ⟨r, hr, rfl⟩ := row_at hp
    walk_at "on"
    refine br_dec (fun e => ?_) (fun e => ?_)
    · walk_at "on"
      exact ⟨_, .refl _, k1 r (find_at hr (decide_eq_true e) fun j y hj hy => decide_eq_false (hno j y hj hy))⟩
    · walk_at "on"
      refine ⟨_, _, by walk_at "subs", .refl _, rfl, rfl, fun j y hj hy => ?_⟩
      by_cases q : j = i
      · subst q; rw [hr] at hy; cases hy; exact e
      · exact hno j y (by omega) hy
  · rintro σ M1 ⟨rfl, rfl, hno⟩
    rw [List.length_map] at hno
    walk_at "on"
    exact ⟨_, .refl _, k2 (find_no fun j y hy => decide_eq_false (hno j y (lt_of_get hy) hy))⟩

theorem bt64 {x : Int} (h : x.natAbs < 2 ^ 64) : intBits x ≤ 64 := intBits_le_iff.mpr h
/-- a drawn row -/
structure RowD (r : Row) : Prop where
  nm : Nm r.nm
  ow : r.ow ≤ 2
  l1 : 1 ≤ r.ws.length
  l2 : r.ws.length ≤ 4
  ws : ∀ w ∈ r.ws, 1 ≤ w ∧ w ≤ 6
  one : r.ow ≠ 0 → ∀ w ∈ r.ws, w = 1
  g1 : gl r.ws = 1
def brd (rs : List Row) : Nat := (rs.map fun r => r.ws.length).foldr (· * ·) 1
theorem brd_cons (r : Row) (rs : List Row) : brd (r :: rs) = r.ws.length * brd rs := rfl
theorem brd_app (rs qs : List Row) : brd (rs ++ qs) = brd rs * brd qs := by
  induction rs with
  | nil => exact (Nat.one_mul _).symm
  | cons r rs ih => rw [List.cons_append, brd_cons, brd_cons, ih, Nat.mul_assoc]
theorem brd_perm {rs qs : List Row} (h : rs.Perm qs) : brd rs = brd qs := by
  induction h with
  | nil => rfl
  | cons x _ ih => rw [brd_cons, brd_cons, ih]
  | swap x y l => rw [brd_cons, brd_cons, brd_cons, brd_cons, Nat.mul_left_comm]
  | trans _ _ h1 h2 => exact h1.trans h2
theorem IsRed.g1 {ws rs : List Int} (h : IsRed ws rs) (h1 : 1 ≤ ws.length) (hp : ∀ w ∈ ws, 1 ≤ w) : gl rs = 1 := by
  cases h with
  | zero hz e =>
    obtain ⟨w, hw⟩ : ∃ w, w ∈ ws := ⟨ws[0]'(by omega), List.getElem_mem _⟩
    have := hp w hw
    have := hz w hw
    omega
  | pos g hg e h => exact h
theorem IsRed.range {ws rs : List Int} (h : IsRed ws rs) (hw : ∀ w ∈ ws, 1 ≤ w ∧ w ≤ 6) : ∀ r ∈ rs, 1 ≤ r ∧ r ≤ 6 := by
  cases h with
  | zero hz e => rw [e]; exact hw
  | pos g hg e h =>
    intro r hr
    have := hw (g * r) (by rw [e]; exact List.mem_map_of_mem hr)
    obtain ⟨h1, h2⟩ := this
    have r0 : 0 < r := by
      rcases Int.lt_trichotomy r 0 with q | q | q
      · have := Int.mul_neg_of_pos_of_neg hg q; omega
      · subst q; simp at h1
      · exact q
    have h3 : 1 * r ≤ g * r := Int.mul_le_mul_of_nonneg_right (by omega) (by omega)
    omega
theorem IsRed.one {ws rs : List Int} (h : IsRed ws rs) (hw : ∀ w ∈ ws, w = 1) : ∀ r ∈ rs, r = 1 := by
  cases h with
  | zero hz e => rw [e]; exact hw
  | pos g hg e h =>
    intro r hr
    have := hw (g * r) (by rw [e]; exact List.mem_map_of_mem hr)
    have h1 : (g : Int) = 1 := Int.eq_one_of_mul_eq_one_right (by omega) this
    rw [h1, Int.one_mul] at this
    exact this
theorem int_mem {us : List Int} {r : Int} (h0 : 0 ≤ r) (h1 : r < (us.length : Int)) : ∃ q, q ∈ us ∧ atI (us.map PV.int) r = some (.int q) := by
  obtain ⟨q, h2, h3, _⟩ := at_mem h0 h1
  obtain ⟨m, rfl⟩ : ∃ m : Nat, r = (m : Int) := ⟨r.toNat, by omega⟩
  rw [Int.toNat_natCast] at h3
  exact ⟨q, h2, atI_nat (by rw [List.getElem?_map, h3]; rfl)⟩
theorem ones_of (n : Nat) : mk (rng 0 n).length (fun _ => PV.int 1) = (List.replicate n (1 : Int)).map PV.int := by
  rw [rng_len]
  unfold mk
  rw [List.map_replicate]
  apply List.ext_getElem?
  intro i
  rw [List.getElem?_map, List.getElem?_replicate]
  by_cases h : i < n
  · rw [List.getElem?_range h, if_pos h]; rfl
  · rw [List.getElem?_eq_none (by simp; omega), if_neg h]; rfl
abbrev cnt8 : List Int := [2, 2, 3, 2, 2, 4, 3, 1]
theorem cnt8_ok : ∀ x ∈ cnt8, 1 ≤ x ∧ x ≤ 4 := by decide
def sp__law_sets (K : Kf) : PSpec := fun vs M Q _ => ∃ (a s : Addr) (ns : List Int) (m w : Nat), vs = [.ref a, .ref s, .int (m : Int), .int (w : Int)] ∧ m ≤ 40 ∧ 1 ≤ w ∧ w ≤ 10 ^ 9 ∧ Env K M a s ns ∧
  ∀ rs M', rs.length ≤ m → SortedN rs → (∀ r ∈ rs, RowD r) → brd rs ≤ w → Env K M' a s ns → Keep s M M' → Q (rowsV rs) M'
theorem sp__law_sets_len {K : Kf} {vs : List PV} {M : PHp} {Q : PVK} {E : PXK} (h : sp__law_sets K vs M Q E) : vs.length = 4 := by
  obtain ⟨_, _, _, _, _, rfl, _⟩ := h; rfl

theorem ok__law_sets {P : Program} {w : World} {K : Kf} {mg : Str → Option Value} {base : Heap} (h0 : Here K mg "_law_sets" s__law_sets ["script", "source", "many", "most"]) (T : Blt mg) (Z : Zc K mg) (XC : Xc K mg) (Su : Sure P base) (C__law_draw : Callee P w K mg base 34 "_law_draw" ["script", "source", "limit"] (sp__law_draw K)) (C__law_name : Callee P w K mg base 35 "_law_name" ["script", "source", "used"] (sp__law_name K)) (C__law_reduced : Callee P w K mg base 35 "_law_reduced" ["weights"] (sp__law_reduced K)) : Callee P w K mg base 36 "_law_sets" ["script", "source", "many", "most"] (sp__law_sets K) := by
  have z_Derivation_start : FldOk K (clsA K "Derivation") "start" := ⟨Z.cls_Derivation, Z.f_Derivation_start⟩
  have z_Derivation_end : FldOk K (clsA K "Derivation") "end" := ⟨Z.cls_Derivation, Z.f_Derivation_end⟩
  have z_Derivation_steps : FldOk K (clsA K "Derivation") "steps" := ⟨Z.cls_Derivation, Z.f_Derivation_steps⟩
  have z_Derivation_back : FldOk K (clsA K "Derivation") "back" := ⟨Z.cls_Derivation, Z.f_Derivation_back⟩
  have z_Derivation__stage_rows : FldOk K (clsA K "Derivation") "_stage_rows" := ⟨Z.cls_Derivation, Z.f_Derivation__stage_rows⟩
  have z_Draft_start : FldOk K (clsA K "Draft") "start" := ⟨Z.cls_Draft, Z.f_Draft_start⟩
  have z_Draft_game : FldOk K (clsA K "Draft") "game" := ⟨Z.cls_Draft, Z.f_Draft_game⟩
  have z_Draft__done_steps : FldOk K (clsA K "Draft") "_done_steps" := ⟨Z.cls_Draft, Z.f_Draft__done_steps⟩
  have z_Draft__back_steps : FldOk K (clsA K "Draft") "_back_steps" := ⟨Z.cls_Draft, Z.f_Draft__back_steps⟩
  have z_Draft__rows_so_far : FldOk K (clsA K "Draft") "_rows_so_far" := ⟨Z.cls_Draft, Z.f_Draft__rows_so_far⟩
  refine ok_of h0 sc__law_sets (fun vs M Q E h => sp__law_sets_len h) (fun f cdv A outer s H E hr => ⟨_, (psscons (psset 4 sc__law_sets.nd (plst panil))
      (psscons (psset 5 sc__law_sets.nd (plst panil))
      (psscons (psset 6 sc__law_sets.nd (pcall C__law_draw (by exact hr.mono (by first | decide | omega)) (pacons (pv 0) (pacons (pv 1) (pacons pinT panil)))))
      (psscons (psfor PassesOwn.never rfl (pirng1 (by rfl) T.b_range (pacons (pop opSub (pv 2) (pop opMul (pixK (K := K) (plst (pacons pinT (pacons pinT (pacons pinT (pacons pinT panil))))) (pcall C__law_draw (by exact hr.mono (by first | decide | omega)) (pacons (pv 0) (pacons (pv 1) (pacons pinT panil))))) (pcall C__law_draw (by exact hr.mono (by first | decide | omega)) (pacons (pv 0) (pacons (pv 1) (pacons (pop opAdd (pv 2) pinT) panil)))))) panil)) (pgname (i := 7) sc__law_sets.nd) (psscons (psset 8 sc__law_sets.nd (pixK (K := K) (plst (pacons pinT (pacons pinT (pacons pinT (pacons pinT (pacons pinT (pacons pinT (pacons pinT (pacons pinT panil))))))))) (pcall C__law_draw (by exact hr.mono (by first | decide | omega)) (pacons (pv 0) (pacons (pv 1) (pacons pinT panil))))))
      (psscut (psif (ptcmp opGt (pv 8) (pv 3) (nomark _)) (pssone (psset 8 sc__law_sets.nd pinT)) pssnil)
      (psscons (psset 3 sc__law_sets.nd (pop (opFdiv Su (by exact hr.mono (by first | decide | omega))) (pv 3) (pv 8)))
      (psscons (psset 9 sc__law_sets.nd (pixK (K := K) (plst (pacons (pop opMod (pcallTy cInt (by rfl) T.b_int (by decide +kernel) (pacons (pop opAdd (pv 6) (pv 7)) panil)) pinT) (pacons (pop opMod (pcallTy cInt (by rfl) T.b_int (by decide +kernel) (pacons (pop opAdd (pv 6) (pv 7)) panil)) pinT) (pacons pinT (pacons pinT panil))))) (pcall C__law_draw (by exact hr.mono (by first | decide | omega)) (pacons (pv 0) (pacons (pv 1) (pacons pinT panil))))))
      (psscons (pssetlcP 10  rfl sc__law_sets.nd rfl (sw_true rfl rfl rfl (by decide +kernel)) (pirng1 (by rfl) T.b_range (pacons (pv 8) panil)) (blkOk_by (own := [("j", 12)]) (N := ["script", "source", "many", "most", "rows", "used", "turn", "k", "count", "owner", "weights", "name", "j"]) (sc := defScope s__law_sets) (by decide +kernel)) (tgName (by decide)) (fun _ _ _ _ _ => (pg_name (i := 12) sc__law_sets.nd rfl (by first | exact Or.inl rfl | exact Or.inr rfl))) (fun _ _ _ _ _ => pinT))
      (psscut (psif (ptcmp (opEqK (K := K) (by exact hr.units)) (pv 9) pinT (nomark _)) (pssone (pssetlc1 10 12 rfl sc__law_sets.nd rfl (sw_true rfl rfl rfl (by decide +kernel)) (pirng1 (by rfl) T.b_range (pacons (pv 8) panil)) (blkOk_by (own := [("j", 12)]) (N := ["script", "source", "many", "most", "rows", "used", "turn", "k", "count", "owner", "weights", "name", "j"]) (sc := defScope s__law_sets) (by decide +kernel)) (by decide) (fun _ _ _ _ _ => pg_name (i := 12) sc__law_sets.nd rfl (Or.inl rfl)) (fun _ _ _ _ _ => ptsnil) (fun _ _ _ _ _ => (pop opAdd pinT (pcall C__law_draw (by exact hr.mono (by first | decide | omega)) (pacons (pv 0) (pacons (pv 1) (pacons pinT panil)))))))) pssnil)
      (psscons (psset 11 sc__law_sets.nd (pcall C__law_name (by exact hr.mono (by first | decide | omega)) (pacons (pv 0) (pacons (pv 1) (pacons (pv 5) panil)))))
      (psscons (psexpr (pbmK (K := K) PySem.F.plainAttrs_list PySem.F.slot_list_append PySem.F.type_list_append mAppend (pv 5) (pacons (pv 11) panil)))
      (pssone (psexpr (pbmK (K := K) PySem.F.plainAttrs_list PySem.F.slot_list_append PySem.F.type_list_append mAppend (pv 4) (pacons (ptup (pacons (pv 11) (pacons (pv 9) (pacons (pcall C__law_reduced (by exact hr.mono (by first | decide | omega)) (pacons (pv 10) panil)) panil)))) panil)))))))))))))
      (pssone (psret (pcallTy (cTupleK (K := K)) (by rfl) T.b_tuple (by decide +kernel) (pacons (pcallB (cSortDK (K := K) (by exact hr.units)) (by rfl) T.b_sorted (by decide +kernel) (pacons (pv 4) panil)) panil)))))))), fun vs M Q Ep h => ?_⟩)
  obtain ⟨a, s, ns, m, w0, rfl, hm, hw1, hw2, e, k⟩ := h
  have he := He.start e
  walk_at "go"
  refine al he fun p hp he => ?_
  walk_at "on"
  refine al (he _) fun u hu he => ?_
  walk_at "on"
  refine dr (he _) (by decide) (by decide) fun t M1 t0 t1 he => ?_
  walk_at "on"
  refine al he fun z1 hz1 he => ?_
  walk_at "on"
  refine dr (he _) (by decide) (by decide) fun d1 M2 d10 d11 he => ?_
  obtain ⟨q1, q1m, hq1⟩ := int_mem (us := [0, 0, 0, 1]) d10 d11
  have q1r : 0 ≤ q1 ∧ q1 ≤ 1 := by revert q1m; simp; omega
  walk_at "on"
  refine dr he.d0 (by omega) (bt64 (by omega)) fun d2 M3 d20 d21 he => ?_
  have hw : ∃ n : Nat, (m : Int) - q1 * d2 ≤ (n : Int) ∧ n ≤ m ∧ ((m : Int) - q1 * d2 - 0).toNat = n := by
    refine ⟨((m : Int) - q1 * d2).toNat, by omega, ?_, by rw [Int.sub_zero]⟩
    have : 0 ≤ q1 * d2 := Int.mul_nonneg q1r.1 d20
    omega
  have hqd : 0 ≤ q1 * d2 ∧ q1 * d2 ≤ 41 := by
    refine ⟨Int.mul_nonneg q1r.1 d20, ?_⟩
    have : q1 = 0 ∨ q1 = 1 := by omega
    rcases this with h | h <;> subst h <;> omega
  walk_at "on"
  refine ⟨small_ok (by omega), ?_⟩
  walk_at "on"
  refine ⟨by omega, ?_⟩
  refine ⟨fun i σ M' => ∃ (rs : List Row) (w : Nat) (w7 w8 w9 w10 w11 : Option PV), σ = [some (.ref a), some (.ref s), none, some (.int (w : Int)), some (.ref p), some (.ref u), some (.int t), w7, w8, w9, w10, w11, none] ∧ rs.length = i ∧ (namesOf rs).Nodup ∧ (∀ q ∈ rs, RowD q) ∧ brd rs * w ≤ w0 ∧ 1 ≤ w ∧ He K [] a s ns M M' [(u, .lst ((namesOf rs).map PV.str)), (p, .lst (rs.map Row.pv))], ⟨_, _, by walk_at "subs", .refl _, [], w0, _, _, _, _, _, rfl, rfl, List.nodup_nil, by simp, by show 1 * w0 ≤ w0; omega, hw1, he⟩, ?_, ?_, ?_⟩
  · intros; trivial
  · clear he
    rintro i x σ M4 hx ⟨rs, w, w7, w8, w9, w10, w11, rfl, hri, nd, hok, hbw, hw1', he⟩
    obtain ⟨hi, rfl⟩ := rng_get hx
    have nl : (namesOf rs).length = rs.length := List.length_map _
    have hi2 : i < 40 := by obtain ⟨n, h1, h2, h3⟩ := hw; omega
    clear hw hz1 hq1
    walk_at "on"
    refine al he fun y1 hy1 he => ?_
    walk_at "on"
    refine dr (he _) (by decide) (by decide) fun d M5 d0 d1 he => ?_
    obtain ⟨c, cm, hc⟩ := int_mem (us := cnt8) d0 d1
    obtain ⟨c1, c2⟩ := cnt8_ok c cm
    walk_at "on"
    replace he := he.d0
    refine ⟨fun σ M' => ∃ c : Nat, σ = [some (.ref a), some (.ref s), none, some (.int (w : Int)), some (.ref p), some (.ref u), some (.int t), some (.int (0 + (i : Int))), some (.int (c : Int)), none, none, none, none] ∧ M' = M5 ∧ 1 ≤ c ∧ c ≤ 4 ∧ c ≤ w, ?_, ?_⟩
    · walk_at "on"
      refine br_dec (fun h => ?_) (fun h => ?_)
      · walk_at "on"
        exact ⟨_, _, by walk_at "subs", .refl _, 1, rfl, rfl, by decide, by decide, hw1'⟩
      · walk_at "on"
        obtain ⟨c, rfl⟩ : ∃ n : Nat, c = (n : Int) := ⟨c.toNat, by omega⟩
        exact ⟨_, _, by walk_at "subs", .refl _, c, rfl, rfl, by omega, by omega, by omega⟩
    clear hc c1 c2 cm d0 d1 c d
    rintro σ M' ⟨c, rfl, rfl, c1, c2, cw⟩
    walk_at "on"
    refine al he fun y2 hy2 he => ?_
    walk_at "on"
    refine dr (he _) (by decide) (by decide) fun d M6 d0 d1 he => ?_
    obtain ⟨ow, om, ho⟩ := int_mem (us := [(t + (0 + (i : Int))).fmod 3, (t + (0 + (i : Int))).fmod 3, 1, 2]) d0 d1
    have owr : 0 ≤ ow ∧ ow ≤ 2 := by
      have := fm (i := t + (0 + (i : Int))) (j := 3) (by decide)
      simp only [List.mem_cons, List.not_mem_nil, or_false] at om
      omega
    walk_at "on"
    replace he := he.d0
    refine ⟨by omega, ?_⟩
    refine ⟨fun _ => .int 1, by rw [rng_len]; omega, fun _ _ => trivial, fun i x M3 Q2 hx sb k3 => ⟨_, rfl, ?_⟩, fun Dl l hD hl => ?_⟩
    · walk_at "on"
      exact k3 _ (.refl _)
    rw [ones_of] at hl
    subst hl
    replace he := he.new (o := .lst ((List.replicate ((c : Int) - 0).toNat (1 : Int)).map PV.int)) hD
    walk_at "on"
    refine ⟨fun σ M' => ∃ (q : Addr) (ws : List Int), σ = [some (.ref a), some (.ref s), none, some (.int (((w : Int).fdiv (c : Int)))), some (.ref p), some (.ref u), some (.int t), none, none, some (.int ow), some (.ref q), none, none] ∧ ws.length = c ∧ (∀ w ∈ ws, 1 ≤ w ∧ w ≤ 6) ∧ (ow ≠ 0 → ∀ w ∈ ws, w = 1) ∧ He K [] a s ns M M' [(q, .lst (ws.map PV.int)), (u, .lst ((namesOf rs).map PV.str)), (p, .lst (rs.map Row.pv))], ?_, ?_⟩
    · walk_at "on"
      refine br_dec (fun h => ?_) (fun h => ?_)
      · walk_at "on"
        refine ⟨by omega, ?_⟩
        refine al he.d0 fun D2 hD2 he => ?_
        refine ⟨fun i acc M' => ∃ ws : List Int, acc = ws.map PV.int ∧ ws.length = i ∧ (∀ w ∈ ws, 1 ≤ w ∧ w ≤ 6) ∧ He K [] a s ns M M' [(D2, .lst acc), (u, .lst ((namesOf rs).map PV.str)), (p, .lst (rs.map Row.pv))], ⟨_, .refl _, [], rfl, rfl, by simp, he _⟩, ?_, ?_, ?_⟩
        · intros; trivial
        · rintro i x acc M4 hx ⟨ws, rfl, hwl, hw, he⟩
          obtain ⟨hi, rfl⟩ := rng_get hx
          walk_at "on"
          refine dr he (by decide) (by decide) fun r M5 f0 f1 he => ?_
          walk_at "on"
          refine ⟨by walk_at "hp", by rw [List.length_map, sizeLine_eq]; omega, _, .refl _, ws ++ [1 + r], by rw [List.map_append]; rfl, by rw [List.length_append, hwl]; rfl, fun z hz => ?_, by walk_at "he"⟩
          rcases List.mem_append.mp hz with h | h
          · exact hw z h
          · rw [List.mem_singleton.mp h]; omega
        · rintro acc M4 ⟨ws, rfl, hwl, hw, he⟩
          rw [rng_len] at hwl
          exact ⟨_, _, by walk_at "subs", .refl _, D2, ws, rfl, by omega, hw, fun z => absurd h z, he⟩
      · walk_at "on"
        exact ⟨_, _, by walk_at "subs", .refl _, Dl, List.replicate ((c : Int) - 0).toNat 1, rfl, by rw [List.length_replicate]; omega, fun w hw => by rw [(List.mem_replicate.mp hw).2]; decide, fun _ w hw => (List.mem_replicate.mp hw).2, he⟩
    clear he hD ho hy1 hy2
    rintro σ M7 ⟨q, ws, rfl, hwl, hw, hone, he⟩
    walk_at "on"
    refine ⟨a, s, u, ns, namesOf rs, rfl, he.env, .inl (he.get 1 rfl), he.ne_s 1 rfl, by omega, fun x M8 nx nin e8 k8 => ?_⟩
    replace he := he.call e8 k8
    walk_at "on"
    refine ⟨_, he.get 1 rfl, by rw [List.length_map, nl, sizeLine_eq]; omega, ?_⟩
    replace he := he.up1 (o' := .lst ((namesOf rs).map PV.str ++ [.str x]))
    walk_at "on"
    refine ⟨_, ws, rfl, .inr ⟨q, rfl, .inl (he.get 0 rfl)⟩, ⟨by omega, fun w hw' => by have := hw w hw'; omega⟩, fun xs hrs => ?_⟩
    obtain ⟨o, rfl⟩ : ∃ o : Nat, ow = (o : Int) := ⟨ow.toNat, by omega⟩
    walk_at "on"
    refine ⟨_, he.get 2 rfl, by rw [List.length_map, sizeLine_eq]; omega, ?_⟩
    replace he := he.d0.up1 (o' := .lst (rs.map Row.pv ++ [.tup [.str x, .int o, .tup (xs.map PV.int)]]))
    walk_at "on"
    have rok : RowD ⟨x, o, xs⟩ := ⟨nx, by show o ≤ 2; omega, by show 1 ≤ xs.length; rw [hrs.len]; omega, by show xs.length ≤ 4; rw [hrs.len]; omega, hrs.range hw, fun h => hrs.one (hone (by show (o : Int) ≠ 0; have : o ≠ 0 := h; omega)), hrs.g1 (by omega) fun w hw' => (hw w hw').1⟩
    have fd : (w : Int).fdiv (c : Int) = ((w / c : Nat) : Int) := by rw [Int.fdiv_eq_ediv_of_nonneg _ (by omega)]; rfl
    rw [fd]
    refine ⟨_, _, by walk_at "subs", .refl _, rs ++ [⟨x, o, xs⟩], w / c, _, _, _, _, _, rfl, by rw [List.length_append, hri]; rfl, ?_, fun z hz => ?_, ?_, (Nat.le_div_iff_mul_le (by omega)).mpr (by omega), ?_⟩
    · rw [namesOf, List.map_append]
      refine List.nodup_append.mpr ⟨nd, by simp, fun y hy z hz => ?_⟩
      rw [List.map_singleton, List.mem_singleton] at hz
      subst hz
      intro h; subst h; exact nin hy
    · rcases List.mem_append.mp hz with h | h
      · exact hok z h
      · rw [List.mem_singleton.mp h]; exact rok
    · rw [brd_app]
      refine Nat.le_trans ?_ hbw
      rw [Nat.mul_assoc]
      refine Nat.mul_le_mul_left _ ?_
      show xs.length * 1 * (w / c) ≤ w
      rw [Nat.mul_one, hrs.len, hwl]
      exact Nat.mul_div_le w c
    · have e1 : (namesOf (rs ++ [(⟨x, o, xs⟩ : Row)])).map PV.str = (namesOf rs).map PV.str ++ [.str x] := by rw [namesOf, List.map_append, List.map_append]; rfl
      have e2 : (rs ++ [(⟨x, o, xs⟩ : Row)]).map Row.pv = rs.map Row.pv ++ [.tup [.str x, .int (o : Int), .tup (xs.map PV.int)]] := List.map_append
      rw [e1, e2]; exact he
  · clear he
    rintro σ M2 ⟨rs, w, w7, w8, w9, w10, w11, rfl, hri, nd, hok, hbw, hw1, he⟩
    rw [rng_len] at hri
    have hrm : rs.length ≤ m := by obtain ⟨n, h1, h2, h3⟩ := hw; omega
    obtain ⟨qs, e3, pm, sn⟩ := sort_rows nd
    walk_at "on"
    refine ⟨rows_pure (fun q hq => by have := (hok q hq).l2; omega), (rows_sortable _).1, (rows_sortable _).2, fun z hz => ?_⟩
    rw [e3]
    walk_at "on"
    refine ⟨M2, .new hz, k qs M2 (by rw [pm.length_eq]; omega) sn (fun q hq => hok q (pm.mem_iff.mp hq)) ?_ he.env he.keep⟩
    rw [brd_perm pm]
    exact Nat.le_trans (Nat.le_mul_of_pos_right _ hw1) hbw

inductive Tr where
  | leaf (x : Str)
  | node (n : Str) (cs : List Tr)
mutual
def Tr.pv : Tr → PV
  | .leaf x => .str x
  | .node n cs => .tup [.str n, .tup (Tr.pvs cs)]
def Tr.pvs : List Tr → List PV
  | [] => []
  | c :: r => c.pv :: Tr.pvs r
end
theorem Tr.pvs_map : ∀ cs : List Tr, Tr.pvs cs = cs.map Tr.pv
  | [] => rfl
  | c :: r => congrArg (c.pv :: ·) (Tr.pvs_map r)
/-- the rows without a name -/
abbrev offN (rs : List Row) (x : Str) : List Row := rs.filter fun q => !decide (q.nm = x)
theorem offN_len {rs : List Row} {q : Row} (hq : q ∈ rs) : (offN rs q.nm).length < rs.length := by
  have h1 := len_two (fun p : Row => !decide (p.nm = q.nm)) rs
  have h2 : 0 < (rs.filter fun p => !(!decide (p.nm = q.nm))).length := List.length_pos_of_mem (List.mem_filter.mpr ⟨hq, by simp⟩)
  show (rs.filter fun p => !decide (p.nm = q.nm)).length < _
  omega
theorem offN_sub {rs : List Row} {x : Str} {q : Row} (h : q ∈ offN rs x) : q ∈ rs := (List.mem_filter.mp h).1
/-- a tree over rows: no set twice on a way -/
inductive TOk (us : List Str) : List Row → Tr → Prop
  | leaf {rs x} : x ∈ us → TOk us rs (.leaf x)
  | node {rs : List Row} {r : Row} {cs : List Tr} : r ∈ rs → cs.length = r.ws.length → (∀ c ∈ cs, TOk us (offN rs r.nm) c) → TOk us rs (.node r.nm cs)
theorem row_mem {rs : List Row} {r : Int} (h0 : 0 ≤ r) (h1 : r < (rs.length : Int)) : ∃ q, q ∈ rs ∧ atI (rs.map Row.pv) r = some q.pv := by
  obtain ⟨q, h2, h3, _⟩ := at_mem h0 h1
  obtain ⟨m, rfl⟩ : ∃ m : Nat, r = (m : Int) := ⟨r.toNat, by omega⟩
  rw [Int.toNat_natCast] at h3
  exact ⟨q, h2, atI_nat (by rw [List.getElem?_map, h3]; rfl)⟩
theorem str_mem {us : List Str} {r : Int} (h0 : 0 ≤ r) (h1 : r < (us.length : Int)) : ∃ q, q ∈ us ∧ atI (us.map PV.str) r = some (.str q) := by
  obtain ⟨q, h2, h3, _⟩ := at_mem h0 h1
  obtain ⟨m, rfl⟩ : ∃ m : Nat, r = (m : Int) := ⟨r.toNat, by omega⟩
  rw [Int.toNat_natCast] at h3
  exact ⟨q, h2, atI_nat (by rw [List.getElem?_map, h3]; rfl)⟩
/-- none or a row -/
abbrev optR (o : Option Row) : PV := match o with | none => .non | some x => x.pv
def sp__law_tree (K : Kf) (n : Nat) : PSpec := fun vs M Q _ => ∃ (a s f o r : Addr) (ns : List Int) (rs : List Row) (us : List Str) (m : Int) (w : Option Row), vs = [.ref a, .ref s, .ref f, .ref o, .ref r, optR w] ∧ rs.length < n ∧ rs.length ≤ 1000 ∧ us.length ≤ 1000 ∧ us ≠ [] ∧ (∀ q ∈ rs, 1 ≤ q.ws.length ∧ q.ws.length ≤ 1000) ∧
  Env K M a s ns ∧ M f = some (.lst (rs.map Row.pv)) ∧ M o = some (.lst (us.map PV.str)) ∧ M r = some (.lst [.int m]) ∧ f ≠ s ∧ o ≠ s ∧ r ≠ s ∧ f ≠ r ∧ o ≠ r ∧ (KL K a (ns.map PV.int) ∨ r ≠ a) ∧ (∀ q, w = some q → q ∈ rs) ∧
  ∀ t M' m', TOk us rs t → Env K M' a s ns → Keep2 s r M M' → M' r = some (.lst [.int m']) → Q t.pv M'
theorem sp__law_tree_len {K : Kf} {n : Nat} {vs : List PV} {M : PHp} {Q : PVK} {E : PXK} (h : sp__law_tree K n vs M Q E) : vs.length = 6 := by
  obtain ⟨_, _, _, _, _, _, _, _, _, _, rfl, _⟩ := h; rfl
theorem sp__law_tree_zero {K : Kf} {vs : List PV} {M : PHp} {Q : PVK} {E : PXK} (h : sp__law_tree K 0 vs M Q E) : False := by
  obtain ⟨_, _, _, _, _, _, _, _, _, _, rfl, h, _⟩ := h; exact absurd h (by omega)

theorem ok__law_tree {P : Program} {w : World} {K : Kf} {mg : Str → Option Value} {base : Heap} (h0 : Here K mg "_law_tree" s__law_tree ["script", "source", "free", "outcomes", "room", "wish"]) (T : Blt mg) (Z : Zc K mg) (XC : Xc K mg) (Su : Sure P base) (C__law_draw : Callee P w K mg base 34 "_law_draw" ["script", "source", "limit"] (sp__law_draw K)) : ∀ n : Nat, Callee P w K mg base (35 + n) "_law_tree" ["script", "source", "free", "outcomes", "room", "wish"] (sp__law_tree K n)
  | 0 => (Callee.never (k := 34) h0 sc__law_tree).imp fun _ _ _ _ h => (sp__law_tree_zero h).elim
  | n + 1 => by
    have C__law_tree := ok__law_tree (P := P) (w := w) (base := base) h0 T Z XC Su C__law_draw n
    have z_Derivation_start : FldOk K (clsA K "Derivation") "start" := ⟨Z.cls_Derivation, Z.f_Derivation_start⟩
    have z_Derivation_end : FldOk K (clsA K "Derivation") "end" := ⟨Z.cls_Derivation, Z.f_Derivation_end⟩
    have z_Derivation_steps : FldOk K (clsA K "Derivation") "steps" := ⟨Z.cls_Derivation, Z.f_Derivation_steps⟩
    have z_Derivation_back : FldOk K (clsA K "Derivation") "back" := ⟨Z.cls_Derivation, Z.f_Derivation_back⟩
    have z_Derivation__stage_rows : FldOk K (clsA K "Derivation") "_stage_rows" := ⟨Z.cls_Derivation, Z.f_Derivation__stage_rows⟩
    have z_Draft_start : FldOk K (clsA K "Draft") "start" := ⟨Z.cls_Draft, Z.f_Draft_start⟩
    have z_Draft_game : FldOk K (clsA K "Draft") "game" := ⟨Z.cls_Draft, Z.f_Draft_game⟩
    have z_Draft__done_steps : FldOk K (clsA K "Draft") "_done_steps" := ⟨Z.cls_Draft, Z.f_Draft__done_steps⟩
    have z_Draft__back_steps : FldOk K (clsA K "Draft") "_back_steps" := ⟨Z.cls_Draft, Z.f_Draft__back_steps⟩
    have z_Draft__rows_so_far : FldOk K (clsA K "Draft") "_rows_so_far" := ⟨Z.cls_Draft, Z.f_Draft__rows_so_far⟩
    refine ok_of (k := 35 + n) h0 sc__law_tree (fun vs M Q E h => sp__law_tree_len h) (fun f cdv A outer s H E hr => ⟨_, (psscons (psasg (pop opSub (pixK (K := K) (pv 4) pinT) pinT) (pgsub (pv 4) pinT))
      (psscut (psset 6 sc__law_tree.nd (pand (pcmp (opEqK (K := K) (by exact hr.units)) (pcall C__law_draw (by exact hr.mono (by first | decide | omega)) (pacons (pv 0) (pacons (pv 1) (pacons pinT panil)))) pinT (nomark _)) (pone (pcmp opIsN (pv 5) pnon (nomark _)))))
      (psscons (psifc (PW.pt (pwor (ptcmp (opEqK (K := K) (by exact hr.units)) (pcallB (cLenK (K := K)) (by rfl) T.b_len (by decide +kernel) (pacons (pv 2) panil)) pinT (nomark _)) (pwor (ptcmp (opLt (by exact hr.units0)) (pixK (K := K) (pv 4) pinT) pinT (nomark _)) (pwor1 (ptval (pv 6)))))) (pssone (psret (pixK (K := K) (pv 3) (pcall C__law_draw (by exact hr.mono (by first | decide | omega)) (pacons (pv 0) (pacons (pv 1) (pacons (pcallB (cLenK (K := K)) (by rfl) T.b_len (by decide +kernel) (pacons (pv 3) panil)) panil))))))) pssnil)
      (psscons (psset 7 sc__law_tree.nd (pixK (K := K) (pv 2) (pcall C__law_draw (by exact hr.mono (by first | decide | omega)) (pacons (pv 0) (pacons (pv 1) (pacons (pcallB (cLenK (K := K)) (by rfl) T.b_len (by decide +kernel) (pacons (pv 2) panil)) panil))))))
      (psscut (psif (ptcmp opNotN (pv 5) pnon (nomark _)) (pssone (psset 7 sc__law_tree.nd (pv 5))) pssnil)
      (psscons (pssetlcF 8  rfl sc__law_tree.nd rfl (sw_true rfl rfl rfl (by decide +kernel)) (piseqK (K := K) (pv 2)) (blkOk_by (own := [("other", 13)]) (N := ["script", "source", "free", "outcomes", "room", "wish", "stop", "row", "rest", "style", "shared", "children", "move", "other"]) (sc := defScope s__law_tree) (by decide +kernel)) (tgName (by decide)) (fun _ _ _ _ _ => (pg_name (i := 13) sc__law_tree.nd rfl (by first | exact Or.inl rfl | exact Or.inr rfl))) (fun _ _ _ _ _ => (ptsone (ptcmp (opNeK (K := K) (by exact hr.units)) (pixK (K := K) (pv 13) pinT) (pixK (K := K) (pv 7) pinT) (nomark _)))) (fun _ _ _ _ _ => (pv 13)))
      (psscons (psset 9 sc__law_tree.nd (pcall C__law_draw (by exact hr.mono (by first | decide | omega)) (pacons (pv 0) (pacons (pv 1) (pacons pinT panil)))))
      (psscons (psset 10 sc__law_tree.nd pnon)
      (psscut (psif (PW.pt (pwand (ptcmp opGt (pv 9) pinT (nomark _)) (pwand1 (ptcmp opGt (pcallB (cLenK (K := K)) (by rfl) T.b_len (by decide +kernel) (pacons (pv 8) panil)) pinT (nomark _))))) (pssone (psset 10 sc__law_tree.nd (pixK (K := K) (pv 8) (pcall C__law_draw (by exact hr.mono (by first | decide | omega)) (pacons (pv 0) (pacons (pv 1) (pacons (pcallB (cLenK (K := K)) (by rfl) T.b_len (by decide +kernel) (pacons (pv 8) panil)) panil))))))) pssnil)
      (psscons (psset 11 sc__law_tree.nd (plst panil))
      (psscons (psfor PassesOwn.never rfl (pirng1 (by rfl) T.b_range (pacons (pcallB (cLenK (K := K)) (by rfl) T.b_len (by decide +kernel) (pacons (pixK (K := K) (pv 7) pinT) panil)) panil)) (pgname (i := 12) sc__law_tree.nd) (pssone (psifc (PW.pt (pwand (ptcmp opGt (pv 12) pinT (nomark _)) (pwand (ptcmp opIsN (pv 5) pnon (nomark _)) (pwand1 (PW.pt (pwor (ptcmp (opEqK (K := K) (by exact hr.units)) (pv 9) pinT (nomark _)) (pwor1 (PW.pt (pwand (ptcmp (opEqK (K := K) (by exact hr.units)) (pv 9) pinT (nomark _)) (pwand1 (ptcmp (opEqK (K := K) (by exact hr.units)) (pcall C__law_draw (by exact hr.mono (by first | decide | omega)) (pacons (pv 0) (pacons (pv 1) (pacons pinT panil)))) pinT (nomark _)))))))))))) (pssone (psexpr (pbmK (K := K) PySem.F.plainAttrs_list PySem.F.slot_list_append PySem.F.type_list_append mAppend (pv 11) (pacons (pixK (K := K) (pv 11) (pop opSub (pv 12) pinT)) panil)))) (pssone (psexpr (pbmK (K := K) PySem.F.plainAttrs_list PySem.F.slot_list_append PySem.F.type_list_append mAppend (pv 11) (pacons (pcall C__law_tree (by exact hr.mono (by first | decide | omega)) (pacons (pv 0) (pacons (pv 1) (pacons (pv 8) (pacons (pv 3) (pacons (pv 4) (pacons (pv 10) panil))))))) panil)))))))
      (pssone (psret (ptup (pacons (pixK (K := K) (pv 7) pinT) (pacons (pcallTy (cTupleK (K := K)) (by rfl) T.b_tuple (by decide +kernel) (pacons (pv 11) panil)) panil)))))))))))))))), fun vs M Q Ep h => ?_⟩)
    obtain ⟨a, s, f, o, r, ns, rs, us, m, w, rfl, hn, hrl, hul, hu0, hws, e, hf, ho, hr, fs, os, rs0, fr, or_, ra, hwq, k⟩ := h
    have he := He.start1 e hr rs0 ra
    have ulen : (us.map PV.str).length = us.length := List.length_map _
    have upos : 0 < us.length := List.length_pos_iff.mpr hu0
    have rlen : (rs.map Row.pv).length = rs.length := List.length_map _
    walk_at "go"
    replace he := he.up0 (o' := .lst [.int (m - 1)])
    refine ⟨fun σ M' => ∃ b : Bool, σ = [some (.ref a), some (.ref s), some (.ref f), some (.ref o), some (.ref r), some (optR w), some (.bl b), none, none, none, none, none, none, none] ∧ He K [r] a s ns M M' [(r, .lst [.int (m - 1)])], ?_, ?_⟩
    · walk_at "on"
      refine dr he (by decide) (by decide) fun d M2 h0 h1 he => ?_
      walk_at "on"
      refine br_dec (fun h => ?_) (fun h => ?_)
      · walk_at "on"
        cases w <;> exact ⟨_, _, by walk_at "subs", .refl _, _, rfl, he⟩
      · exact ⟨_, _, by walk_at "subs", .refl _, _, rfl, he⟩
    clear he
    rintro σ M1 ⟨b, rfl, he⟩
    walk_at "on"
    refine ⟨fun b M' => M' = M1 ∧ (b = false → rs ≠ []), ?_, ?_⟩
    · walk_at "on"
      refine br_dec (fun h => ?_) (fun h => ?_)
      · exact ⟨_, .refl _, rfl, fun q => by cases q⟩
      have hne : rs ≠ [] := fun q => h (by rw [q]; rfl)
      walk_at "on"
      refine br_dec (fun h => ?_) (fun h => ?_)
      · exact ⟨_, .refl _, rfl, fun q => by cases q⟩
      walk_at "on"
      exact ⟨_, .refl _, rfl, fun _ => hne⟩
    rintro b2 M' ⟨rfl, hne⟩
    refine br_of (fun h => ?_) (fun h => ?_)
    · walk_at "on"
      refine dr he (by rw [ulen]; omega) (bt64 (by rw [ulen]; omega)) fun d M2 h0 h1 he => ?_
      rw [ulen] at h1
      obtain ⟨y, hym, hy⟩ := str_mem h0 h1
      walk_at "on"
      exact ⟨_, .refl _, k (.leaf y) _ _ (.leaf hym) he.env he.keep2 (he.get 0 rfl)⟩
    have rpos : 0 < rs.length := List.length_pos_iff.mpr (hne h)
    walk_at "on"
    refine dr he (by rw [rlen]; omega) (bt64 (by rw [rlen]; omega)) fun d M2 h0 h1 he => ?_
    rw [rlen] at h1
    obtain ⟨q0, hq0, hy0⟩ := row_mem h0 h1
    walk_at "on"
    refine ⟨fun σ M' => ∃ q : Row, q ∈ rs ∧ σ = [some (.ref a), some (.ref s), some (.ref f), some (.ref o), some (.ref r), some (optR w), none, some q.pv, none, none, none, none, none, none] ∧ M' = M2, ?_, ?_⟩
    · cases w with
      | none => walk_at "on"; exact ⟨_, _, by walk_at "subs", .refl _, q0, hq0, rfl, rfl⟩
      | some q => walk_at "on"; exact ⟨_, _, by walk_at "subs", .refl _, q, hwq q rfl, rfl, rfl⟩
    clear hy0 h0 h1
    rintro σ M' ⟨q, hq, rfl, rfl⟩
    have hwq1 := hws q hq
    walk_at "on"
    refine ⟨fun i => !decide ((rs.getD i r0).nm = q.nm), fun i => (rs.getD i r0).pv, by rw [rlen]; omega, fun M3 sb => .inl (sb _ _ (by walk_at "hp")), fun i x M3 Q3 hx sb k3 => ?_, fun i x M3 Q2 hx hb sb k3 => ?_, fun Dl l hD hl => ?_⟩
    · obtain ⟨p, hp, rfl⟩ := row_at hx
      refine ⟨_, rfl, ?_⟩
      simp only [getD_at hp] at k3
      walk_at "on"
      exact k3 _ (.refl _)
    · obtain ⟨p, hp, rfl⟩ := row_at hx
      refine ⟨_, rfl, ?_⟩
      simp only [getD_at hp] at k3
      walk_at "on"
      exact k3 _ (.refl _)
    rw [rlen, flt_list rs r0 (fun p => !decide (p.nm = q.nm)) Row.pv] at hl
    subst hl
    have less := offN_len hq
    have dl : ((rs.filter fun p => !decide (p.nm = q.nm)).map Row.pv).length = (offN rs q.nm).length := List.length_map _
    replace he := he.new (o := .lst ((rs.filter fun p => !decide (p.nm = q.nm)).map Row.pv)) hD
    walk_at "on"
    refine dr he (by decide) (by decide) fun st M3 st0 st1 he => ?_
    walk_at "on"
    refine ⟨fun σ M' => ∃ sh : Option Row, (∀ q', sh = some q' → q' ∈ offN rs q.nm) ∧ σ = [some (.ref a), some (.ref s), none, some (.ref o), some (.ref r), some (optR w), none, some q.pv, some (.ref Dl), some (.int st), some (optR sh), none, none, none] ∧ He K [r] a s ns M M' [(Dl, .lst ((offN rs q.nm).map Row.pv)), (r, .lst [.int (m - 1)])], ?_, ?_⟩
    · walk_at "on"
      refine br_dec (fun h => ?_) (fun h => ?_)
      · walk_at "on"
        refine br_dec (fun h2 => ?_) (fun h2 => ?_)
        · walk_at "on"
          refine dr he (by omega) (bt64 (by rw [dl]; omega)) fun d M4 h0 h1 he => ?_
          rw [dl] at h1
          obtain ⟨q1, hq1, hy1⟩ := row_mem h0 h1
          walk_at "on"
          exact ⟨_, _, by walk_at "subs", .refl _, some q1, fun q' e => by (cases e; exact hq1), rfl, he⟩
        · walk_at "on"; exact ⟨_, _, by walk_at "subs", .refl _, none, fun q' e => by (cases e), rfl, he⟩
      · walk_at "on"; exact ⟨_, _, by walk_at "subs", .refl _, none, fun q' e => by (cases e), rfl, he⟩
    clear he
    rintro σ M4 ⟨sh, hsh, rfl, he⟩
    walk_at "on"
    refine al he fun D2 hD2 he => ?_
    walk_at "on"
    refine ⟨by rw [List.length_map]; omega, ?_⟩
    refine ⟨fun i σ M' => ∃ (cs : List Tr) (m' : Int) (w12 : Option PV), σ = [some (.ref a), some (.ref s), none, some (.ref o), some (.ref r), some (optR w), none, some q.pv, some (.ref Dl), some (.int st), some (optR sh), some (.ref D2), w12, none] ∧ cs.length = i ∧ (∀ c ∈ cs, TOk us (offN rs q.nm) c) ∧ He K [r] a s ns M M' [(D2, .lst (cs.map Tr.pv)), (Dl, .lst ((offN rs q.nm).map Row.pv)), (r, .lst [.int m'])], ⟨_, _, by walk_at "subs", .refl _, [], _, _, rfl, rfl, by simp, he _⟩, ?_, ?_, ?_⟩
    · intros; trivial
    · clear he
      rintro i x σ M5 hx ⟨cs, m', w12, rfl, hci, hcs, he⟩
      obtain ⟨hi, rfl⟩ := rng_get hx
      rw [List.length_map] at hi
      walk_at "on"
      refine ⟨fun b M' => He K [r] a s ns M M' [(D2, .lst (cs.map Tr.pv)), (Dl, .lst ((offN rs q.nm).map Row.pv)), (r, .lst [.int m'])] ∧ (b = true → 0 < i), ?_, ?_⟩
      · walk_at "on"
        refine br_dec (fun h => ?_) (fun h => ?_)
        · have ip : 0 < i := by omega
          cases w with
          | some w => walk_at "on"; exact ⟨_, .refl _, he, fun _ => ip⟩
          | none =>
            walk_at "on"
            refine br_dec (fun h => ?_) (fun h => ?_)
            · exact ⟨_, .refl _, he, fun _ => ip⟩
            · walk_at "on"
              refine br_dec (fun h => ?_) (fun h => ?_)
              · walk_at "on"
                refine dr he (by decide) (by decide) fun d M6 h0 h1 he => ?_
                walk_at "on"
                exact ⟨_, .refl _, he, fun _ => ip⟩
              · exact ⟨_, .refl _, he, fun _ => ip⟩
        · exact ⟨_, .refl _, he, fun q => by (cases q)⟩
      clear he
      rintro b M6 ⟨he, hb⟩
      refine br_of (fun h => ?_) (fun h => ?_)
      · have ip := hb h
        obtain ⟨c, hc⟩ : ∃ c, cs[i - 1]? = some c := ⟨cs[i - 1]'(by omega), List.getElem?_eq_getElem _⟩
        have hat : atI (cs.map Tr.pv) (0 + (i : Int) - 1) = some c.pv := by
          rw [show (0 + (i : Int) - 1) = ((i - 1 : Nat) : Int) by omega]
          exact atI_nat (by rw [List.getElem?_map, hc]; rfl)
        walk_at "on"
        refine ⟨_, he.get 0 rfl, by rw [List.length_map, sizeLine_eq]; omega, ?_⟩
        refine ⟨_, _, by walk_at "subs", .refl _, cs ++ [c], _, _, rfl, by rw [List.length_append, hci]; rfl, fun z hz => ?_, by rw [List.map_append]; walk_at "he"⟩
        rcases List.mem_append.mp hz with h | h
        · exact hcs z h
        · rw [List.mem_singleton.mp h]; exact hcs c (List.mem_of_getElem? hc)
      · walk_at "on"
        refine ⟨a, s, Dl, o, r, ns, offN rs q.nm, us, m', sh, rfl, by omega, by omega, hul, hu0, fun p hp => hws p (offN_sub hp), he.env, he.get 1 rfl, by walk_at "hp", he.get 2 rfl, he.ne_s 1 rfl, os, rs0, he.ne 1 2 (by decide) rfl rfl, or_, ra, hsh, fun t M7 m7 ht e7 k7 hr7 => ?_⟩
        replace he := he.c22 e7 k7 hr7
        walk_at "on"
        refine ⟨_, he.get 0 rfl, by rw [List.length_map, sizeLine_eq]; omega, ?_⟩
        refine ⟨_, _, by walk_at "subs", .refl _, cs ++ [t], _, _, rfl, by rw [List.length_append, hci]; rfl, fun z hz => ?_, by rw [List.map_append]; walk_at "he"⟩
        rcases List.mem_append.mp hz with h | h
        · exact hcs z h
        · rw [List.mem_singleton.mp h]; exact ht
    · clear he
      rintro σ M5 ⟨cs, m', w12, rfl, hci, hcs, he⟩
      rw [rng_len, List.length_map] at hci
      walk_at "on"
      refine ⟨_, .refl _, ?_⟩
      rw [← Tr.pvs_map]
      exact k (.node q.nm cs) _ _ (.node hq (by omega) hcs) he.env he.keep2 (he.get 2 rfl)
  
/-! places in a tree -/
abbrev gameV (rs : List Row) (t : Tr) : PV := .tup [rowsV rs, t.pv]
def trAt : List Int → Tr → Option Tr
  | [], t => some t
  | _ :: _, .leaf _ => none
  | m :: p, .node _ cs => match (if 0 ≤ m then cs[m.toNat]? else none) with
    | some c => trAt p c
    | none => none
theorem trAt_cons {m : Int} {p : List Int} {t u : Tr} (h : trAt (m :: p) t = some u) : ∃ n cs c, t = .node n cs ∧ 0 ≤ m ∧ cs[m.toNat]? = some c ∧ trAt p c = some u := by
  cases t with
  | leaf x => unfold trAt at h; cases h
  | node n cs =>
    unfold trAt at h
    by_cases h0 : 0 ≤ m
    · rw [if_pos h0] at h
      cases e : cs[m.toNat]? with
      | none => rw [e] at h; cases h
      | some c => rw [e] at h; exact ⟨n, cs, c, rfl, h0, e, h⟩
    · rw [if_neg h0] at h; cases h
theorem trAt_node {m : Int} {p : List Int} {n : Str} {cs : List Tr} {c : Tr} (h0 : 0 ≤ m) (h : cs[m.toNat]? = some c) : trAt (m :: p) (.node n cs) = trAt p c := by
  conv => lhs; unfold trAt
  rw [if_pos h0, h]
theorem trAt_off {m : Int} {p : List Int} {n : Str} {cs : List Tr} (h : ¬ (0 ≤ m ∧ m < (cs.length : Int))) : trAt (m :: p) (.node n cs) = none := by
  unfold trAt
  by_cases h0 : 0 ≤ m
  · rw [if_pos h0, List.getElem?_eq_none (by omega)]
  · rw [if_neg h0]
theorem trAt_leaf {m : Int} {p : List Int} {x : Str} : trAt (m :: p) (.leaf x) = none := by unfold trAt; rfl
theorem trAt_app : ∀ {p q : List Int} {t u : Tr}, trAt p t = some u → trAt (p ++ q) t = trAt q u
  | [], q, t, u, h => by cases h; rfl
  | m :: p, q, t, u, h => by
    obtain ⟨n, cs, c, rfl, h1, h2, h3⟩ := trAt_cons h
    rw [List.cons_append, trAt_node h1 h2]
    exact trAt_app h3
theorem drop_at {α : Type} {l : List α} {i : Nat} {x : α} (h : l[i]? = some x) : l.drop i = x :: l.drop (i + 1) := by
  obtain ⟨hi, rfl⟩ := List.getElem?_eq_some_iff.mp h
  exact (List.getElem_cons_drop (h := hi)).symm
theorem kid_at {cs : List Tr} {m : Int} (h0 : 0 ≤ m) (h1 : m < (cs.length : Int)) : ∃ c, cs[m.toNat]? = some c ∧ atI (Tr.pvs cs) m = some c.pv := by
  obtain ⟨k, rfl⟩ : ∃ k : Nat, m = (k : Int) := ⟨m.toNat, by omega⟩
  have hk : k < cs.length := by omega
  refine ⟨cs[k], by rw [Int.toNat_natCast]; exact List.getElem?_eq_getElem hk, ?_⟩
  rw [Tr.pvs_map]
  exact atI_nat (by rw [List.getElem?_map, List.getElem?_eq_getElem hk]; rfl)
theorem pvs_len {cs : List Tr} : (Tr.pvs cs).length = cs.length := by rw [Tr.pvs_map, List.length_map]
theorem kid_of {cs : List Tr} {i : Nat} {p : PV} (h : (Tr.pvs cs)[i]? = some p) : ∃ c, cs[i]? = some c ∧ p = c.pv := by
  rw [Tr.pvs_map, List.getElem?_map] at h
  cases e : cs[i]? with
  | none => rw [e] at h; cases h
  | some z => rw [e] at h; exact ⟨z, rfl, (Option.some.inj h).symm⟩
def Tr.ks : Tr → List Tr
  | .leaf _ => []
  | .node _ cs => cs
/-- another tree in its place -/
def setT : List Int → Tr → Tr → Tr
  | [], u, _ => u
  | _ :: _, _, .leaf x => .leaf x
  | m :: p, u, .node n cs => .node n (match cs[m.toNat]? with | some c => cs.set m.toNat (setT p u c) | none => cs)
theorem setT_node {m : Int} {p : List Int} {u c : Tr} {n : Str} {cs : List Tr} (h : cs[m.toNat]? = some c) : setT (m :: p) u (.node n cs) = .node n (cs.set m.toNat (setT p u c)) := by
  conv => lhs; unfold setT
  rw [h]
theorem set_get {cs : List Tr} {i : Nat} {c d : Tr} (h : cs[i]? = some c) : (cs.set i d)[i]? = some d := List.getElem?_set_self (lt_of_get h)
theorem trAt_setT : ∀ {p : List Int} {t u v : Tr}, trAt p t = some v → trAt p (setT p u t) = some u
  | [], t, u, v, h => rfl
  | m :: p, t, u, v, h => by
    obtain ⟨n, cs, c, rfl, h0, hc, h3⟩ := trAt_cons h
    rw [setT_node hc, trAt_node h0 (set_get hc)]
    exact trAt_setT h3
theorem setT_setT : ∀ {p : List Int} {t u v w : Tr}, trAt p t = some v → setT p w (setT p u t) = setT p w t
  | [], t, u, v, w, h => rfl
  | m :: p, t, u, v, w, h => by
    obtain ⟨n, cs, c, rfl, h0, hc, h3⟩ := trAt_cons h
    rw [setT_node hc, setT_node (set_get hc), setT_setT h3, setT_node hc, List.set_set]
theorem setT_self : ∀ {p : List Int} {t v : Tr}, trAt p t = some v → setT p v t = t
  | [], t, v, h => by cases h; rfl
  | m :: p, t, v, h => by
    obtain ⟨n, cs, c, rfl, h0, hc, h3⟩ := trAt_cons h
    rw [setT_node hc, setT_self h3]
    congr 1
    obtain ⟨hi, rfl⟩ := List.getElem?_eq_some_iff.mp hc
    exact List.set_getElem_self hi
/-- the sets above a place, with the moves -/
def abv : List Int → Tr → List (Str × Int)
  | m :: p, .node n cs => (n, m) :: (match cs[m.toNat]? with | some c => abv p c | none => [])
  | _, _ => []
theorem abv_node {m : Int} {p : List Int} {c : Tr} {n : Str} {cs : List Tr} (h : cs[m.toNat]? = some c) : abv (m :: p) (.node n cs) = (n, m) :: abv p c := by
  conv => lhs; unfold abv
  rw [h]
theorem abv_setT : ∀ {p : List Int} {t u v : Tr}, trAt p t = some v → abv p (setT p u t) = abv p t
  | [], t, u, v, h => by
    have e : ∀ x : Tr, abv [] x = [] := fun x => by cases x <;> rfl
    rw [e, e]
  | m :: p, t, u, v, h => by
    obtain ⟨n, cs, c, rfl, h0, hc, h3⟩ := trAt_cons h
    rw [setT_node hc, abv_node (set_get hc), abv_node hc, abv_setT h3]
abbrev abvN (p : List Int) (t : Tr) : List Str := (abv p t).map Prod.fst
mutual
/-- the sets of a tree -/
def nmT : Tr → List Str
  | .leaf _ => []
  | .node n cs => n :: nmTs cs
def nmTs : List Tr → List Str
  | [] => []
  | c :: r => nmT c ++ nmTs r
end
theorem nmTs_mem {x : Str} : ∀ {cs : List Tr}, x ∈ nmTs cs ↔ ∃ c ∈ cs, x ∈ nmT c
  | [] => by unfold nmTs; simp
  | c :: r => by unfold nmTs; rw [List.mem_append, nmTs_mem (cs := r)]; simp
theorem nmT_node {x n : Str} {cs : List Tr} : x ∈ nmT (.node n cs) ↔ x = n ∨ ∃ c ∈ cs, x ∈ nmT c := by
  conv => lhs; unfold nmT
  rw [List.mem_cons, nmTs_mem]
theorem nmT_leaf {x y : Str} : ¬ x ∈ nmT (.leaf y) := by unfold nmT; simp
theorem offN_mem {rs : List Row} {x : Str} {r : Row} : r ∈ offN rs x ↔ r ∈ rs ∧ r.nm ≠ x := by rw [List.mem_filter]; simp
theorem offN_comm (rs : List Row) (x y : Str) : offN (offN rs x) y = offN (offN rs y) x := by
  rw [offN, offN, offN, offN, List.filter_filter, List.filter_filter]
  exact List.filter_congr fun r _ => Bool.and_comm _ _
/-- the rows left at a place -/
def offP : List Int → Tr → List Row → List Row
  | m :: p, .node n cs, rs => match cs[m.toNat]? with | some c => offP p c (offN rs n) | none => rs
  | _, _, rs => rs
theorem offP_node {m : Int} {p : List Int} {c : Tr} {n : Str} {cs : List Tr} {rs : List Row} (h : cs[m.toNat]? = some c) : offP (m :: p) (.node n cs) rs = offP p c (offN rs n) := by
  conv => lhs; unfold offP
  rw [h]
theorem offP_nil {t : Tr} {rs : List Row} : offP [] t rs = rs := by cases t <;> rfl
theorem TOk.kid {us : List Str} {rs : List Row} {n : Str} {cs : List Tr} (h : TOk us rs (.node n cs)) : ∃ r ∈ rs, r.nm = n ∧ cs.length = r.ws.length ∧ ∀ c ∈ cs, TOk us (offN rs n) c := by
  cases h with
  | node h1 h2 h3 => exact ⟨_, h1, rfl, h2, h3⟩
theorem TOk.at : ∀ {us : List Str} {p : List Int} {rs : List Row} {t v : Tr}, TOk us rs t → trAt p t = some v → TOk us (offP p t rs) v
  | us, [], rs, t, v, h, e => by cases e; rw [offP_nil]; exact h
  | us, m :: p, rs, t, v, h, e => by
    obtain ⟨n, cs, c, rfl, h0, hc, h3⟩ := trAt_cons e
    obtain ⟨r, hr, rfl, hl, hk⟩ := h.kid
    rw [offP_node hc]
    exact TOk.at (hk c (List.mem_of_getElem? hc)) h3
theorem TOk.set : ∀ {us : List Str} {p : List Int} {rs : List Row} {t u v : Tr}, TOk us rs t → trAt p t = some v → TOk us (offP p t rs) u → TOk us rs (setT p u t)
  | us, [], rs, t, u, v, h, e, hu => by rw [offP_nil] at hu; exact hu
  | us, m :: p, rs, t, u, v, h, e, hu => by
    obtain ⟨n, cs, c, rfl, h0, hc, h3⟩ := trAt_cons e
    obtain ⟨r, hr, rfl, hl, hk⟩ := h.kid
    rw [offP_node hc] at hu
    rw [setT_node hc]
    refine .node hr (by rw [List.length_set]; exact hl) fun d hd => ?_
    rcases List.mem_or_eq_of_mem_set hd with q | q
    · exact hk d q
    · rw [q]; exact TOk.set (hk c (List.mem_of_getElem? hc)) h3 hu
theorem offP_mem : ∀ {p : List Int} {rs : List Row} {t v : Tr} {r : Row}, trAt p t = some v → (r ∈ offP p t rs ↔ r ∈ rs ∧ r.nm ∉ abvN p t)
  | [], rs, t, v, r, e => by
    have e : ∀ x : Tr, abvN [] x = [] := fun x => by cases x <;> rfl
    rw [e, offP_nil]; simp
  | m :: p, rs, t, v, r, e => by
    obtain ⟨n, cs, c, rfl, h0, hc, h3⟩ := trAt_cons e
    have e : abvN (m :: p) (.node n cs) = n :: abvN p c := by
      show List.map _ (abv _ _) = _
      rw [abv_node hc]; rfl
    rw [offP_node hc, offP_mem h3, offN_mem, e, List.mem_cons, not_or, and_assoc]
theorem offP_set {p : List Int} {rs : List Row} {t u v : Tr} (h : trAt p t = some v) : offP p (setT p u t) rs = offP p t rs := by
  induction p generalizing t rs with
  | nil => rw [offP_nil, offP_nil]
  | cons m p ih =>
    obtain ⟨n, cs, c, rfl, h0, hc, h3⟩ := trAt_cons h
    rw [setT_node hc, offP_node (set_get hc), offP_node hc, ih h3]
theorem TOk.names {us : List Str} {rs : List Row} {t : Tr} (h : TOk us rs t) : ∀ x ∈ nmT t, ∃ r ∈ rs, r.nm = x := by
  induction h with
  | leaf _ => exact fun x hx => absurd hx nmT_leaf
  | node hr hl hc ih =>
    intro x hx
    rcases nmT_node.mp hx with rfl | ⟨c, hc, hx⟩
    · exact ⟨_, hr, rfl⟩
    · obtain ⟨r, hr, e⟩ := ih c hc x hx
      exact ⟨r, offN_sub hr, e⟩
theorem TOk.wide {us : List Str} {x : Str} {rs : List Row} {t : Tr} (h : TOk us (offN rs x) t) : TOk us rs t := by
  generalize e : offN rs x = qs at h
  induction h generalizing rs with
  | leaf h => exact .leaf h
  | node hr hl hc ih =>
    subst e
    refine .node (offN_sub hr) hl fun c hcm => ih c hcm (offN_comm _ _ _)
theorem TOk.off {us : List Str} {x : Str} {rs : List Row} {t : Tr} (h : TOk us rs t) : x ∉ nmT t → TOk us (offN rs x) t := by
  induction h with
  | leaf h => exact fun _ => .leaf h
  | node hr hl hc ih =>
    intro hx
    refine .node (offN_mem.mpr ⟨hr, fun e => hx (nmT_node.mpr (.inl e.symm))⟩) hl fun c hcm => ?_
    rw [offN_comm]
    exact ih c hcm fun q => hx (nmT_node.mpr (.inr ⟨c, hcm, q⟩))
theorem TOk.not {us : List Str} {x : Str} {rs : List Row} {t : Tr} (h : TOk us (offN rs x) t) : x ∉ nmT t := fun hx => by
  obtain ⟨r, hr, e⟩ := h.names x hx
  exact (offN_mem.mp hr).2 e
theorem TOk.more {us vs : List Str} {rs : List Row} {t : Tr} (h : TOk us rs t) (s : ∀ x ∈ us, x ∈ vs) : TOk vs rs t := by
  induction h with
  | leaf h => exact .leaf (s _ h)
  | node hr hl hc ih => exact .node hr hl ih
theorem TOk.deep : ∀ {us : List Str} {p : List Int} {rs : List Row} {t v : Tr}, TOk us rs t → trAt p t = some v → p.length ≤ rs.length
  | us, [], rs, t, v, h, e => Nat.zero_le _
  | us, m :: p, rs, t, v, h, e => by
    obtain ⟨n, cs, c, rfl, h0, hc, h3⟩ := trAt_cons e
    obtain ⟨r, hr, rfl, hl, hk⟩ := h.kid
    have := TOk.deep (hk c (List.mem_of_getElem? hc)) h3
    have := offN_len hr
    rw [List.length_cons]; omega
/-- rows that a drawn game has -/
structure RsOk (rs : List Row) : Prop where
  nd : (namesOf rs).Nodup
  l1 : ∀ r ∈ rs, 1 ≤ r.ws.length
  l2 : ∀ r ∈ rs, r.ws.length ≤ 1000
  le : rs.length ≤ 7
theorem RsOk.off {rs : List Row} {x : Str} (h : RsOk rs) : RsOk (offN rs x) :=
  ⟨h.nd.sublist (List.filter_sublist.map _), fun r hr => h.l1 r (offN_sub hr), fun r hr => h.l2 r (offN_sub hr), Nat.le_trans (List.length_filter_le _ _) h.le⟩
theorem TOk.txt {us : List Str} : ∀ {n : Nat} {rs : List Row} {t : Tr}, TOk us rs t → (∀ r ∈ rs, r.ws.length ≤ 1000) → rs.length ≤ n → TxtD (2 * n + 1) t.pv
  | n, rs, _, .leaf _, _, _ => .str _
  | 0, rs, _, .node hr _ _, _, h => by have := List.length_pos_of_mem hr; omega
  | n + 1, rs, _, .node (r := r) (cs := cs) hr hl hc, h2, h => by
    have less := offN_len hr
    show TxtD ((2 * n + 1) + 1 + 1) (.tup [.str r.nm, .tup (Tr.pvs cs)])
    refine .tup (by show 2 ≤ 16777216; decide) fun x hx => ?_
    rcases List.mem_cons.mp hx with rfl | hx
    · exact .str _
    · rw [List.mem_singleton.mp hx]
      have := h2 _ hr
      refine .tup (by rw [pvs_len]; omega) fun y hy => ?_
      rw [Tr.pvs_map] at hy
      obtain ⟨c, hcm, rfl⟩ := List.mem_map.mp hy
      exact TOk.txt (hc c hcm) (fun q hq => h2 q (offN_sub hq)) (by omega)
theorem TxtD.more : ∀ {n m : Nat} {x : PV}, TxtD n x → n ≤ m → TxtD m x
  | _, m, _, .non, h => by obtain ⟨k, rfl⟩ : ∃ k, m = k + 1 := ⟨m - 1, by omega⟩; exact .non
  | _, m, _, .int i, h => by obtain ⟨k, rfl⟩ : ∃ k, m = k + 1 := ⟨m - 1, by omega⟩; exact .int i
  | _, m, _, .str i, h => by obtain ⟨k, rfl⟩ : ∃ k, m = k + 1 := ⟨m - 1, by omega⟩; exact .str i
  | n + 1, m, _, .tup h1 h2, h => by
    obtain ⟨k, rfl⟩ : ∃ k, m = k + 1 := ⟨m - 1, by omega⟩
    exact .tup h1 fun x hx => TxtD.more (h2 x hx) (by omega)
mutual
theorem Tr.pv_inj : ∀ {t u : Tr}, t.pv = u.pv → t = u
  | .leaf x, .leaf y, h => by cases h; rfl
  | .leaf x, .node n cs, h => by cases h
  | .node n cs, .leaf x, h => by cases h
  | .node n cs, .node m ds, h => by
    have h1 : PV.tup [.str n, .tup (Tr.pvs cs)] = PV.tup [.str m, .tup (Tr.pvs ds)] := h
    have h2 : n = m ∧ Tr.pvs cs = Tr.pvs ds := by simpa using h1
    rw [h2.1, Tr.pvs_inj h2.2]
theorem Tr.pvs_inj : ∀ {t u : List Tr}, Tr.pvs t = Tr.pvs u → t = u
  | [], [], h => rfl
  | [], _ :: _, h => by cases h
  | _ :: _, [], h => by cases h
  | a :: r, b :: q, h => by
    have h2 : a.pv = b.pv ∧ Tr.pvs r = Tr.pvs q := by simpa [Tr.pvs] using h
    rw [Tr.pv_inj h2.1, Tr.pvs_inj h2.2]
end
/-! the three steps -/
/-- grandchildren become children -/
def turn (n : Str) (cs : List Tr) (k : Nat) : List Tr := mk k fun i => .node n (cs.map fun c => c.ks.getD i (.leaf n))
def Tr.isN (l : Str) : Tr → Bool
  | .leaf _ => false
  | .node m _ => decide (m = l)
def swapU (u u' : Tr) : Prop := ∃ n cs l ks, u = .node n cs ∧ cs[0]? = some (.node l ks) ∧ (∀ c ∈ cs, c.isN l = true) ∧ u' = .node l (turn n cs ks.length)
def takeU (u u' : Tr) : Prop := ∃ n cs, u = .node n cs ∧ cs[0]? = some u' ∧ ∀ c ∈ cs, c = u'
def putU (rs : List Row) (ab : List Str) (x : Str) (u u' : Tr) : Prop := ∃ r ∈ rs, r.nm = x ∧ x ∉ nmT u ∧ x ∉ ab ∧ u' = .node x (List.replicate r.ws.length u)
/-- o is the answer of a step at p -/
def StO (R : Tr → Tr → Prop) (p : List Int) (t : Tr) (o : Option Tr) : Prop := match o with
  | some t' => ∃ u u', trAt p t = some u ∧ R u u' ∧ t' = setT p u' t
  | none => ∀ u u', trAt p t = some u → ¬ R u u'
theorem StO.ex (R : Tr → Tr → Prop) (p : List Int) (t : Tr) : ∃ o, StO R p t o := by
  by_cases h : ∃ u u', trAt p t = some u ∧ R u u'
  · obtain ⟨u, u', h1, h2⟩ := h
    exact ⟨some (setT p u' t), u, u', h1, h2, rfl⟩
  · exact ⟨none, fun u u' h1 h2 => h ⟨u, u', h1, h2⟩⟩
theorem StO.no {R : Tr → Tr → Prop} {p : List Int} {t : Tr} {o : Option Tr} (h : StO R p t o) (n : ∀ u u', trAt p t = some u → ¬ R u u') : o = none := by
  cases o with
  | none => rfl
  | some t' => obtain ⟨u, u', h1, h2, _⟩ := h; exact absurd h2 (n u u' h1)
theorem StO.off {R : Tr → Tr → Prop} {p : List Int} {t : Tr} {o : Option Tr} (h : StO R p t o) (n : trAt p t = none) : o = none := h.no fun u u' h1 => by rw [n] at h1; cases h1
def Fnl (R : Tr → Tr → Prop) : Prop := ∀ u a b, R u a → R u b → a = b
theorem StO.yes {R : Tr → Tr → Prop} {p : List Int} {t u u' : Tr} {o : Option Tr} (h : StO R p t o) (f : Fnl R) (h1 : trAt p t = some u) (h2 : R u u') : o = some (setT p u' t) := by
  cases o with
  | none => exact absurd h2 (h u u' h1)
  | some t' =>
    obtain ⟨v, v', g1, g2, rfl⟩ := h
    rw [h1] at g1; cases g1
    rw [f _ _ _ h2 g2]
theorem fnl_swap : Fnl swapU := by
  rintro u a b ⟨n, cs, l, ks, rfl, h1, _, rfl⟩ ⟨n', cs', l', ks', e, h1', _, rfl⟩
  cases e
  rw [h1] at h1'; cases h1'
  rfl
theorem fnl_take : Fnl takeU := by
  rintro u a b ⟨n, cs, rfl, h1, _⟩ ⟨n', cs', e, h1', _⟩
  cases e
  rw [h1] at h1'; cases h1'
  rfl
theorem row_eq {rs : List Row} (nd : (namesOf rs).Nodup) {a b : Row} (ha : a ∈ rs) (hb : b ∈ rs) (e : a.nm = b.nm) : a = b := by
  induction rs with
  | nil => cases ha
  | cons x l ih =>
    have nd2 := List.nodup_cons.mp (show (x.nm :: namesOf l).Nodup from nd)
    rcases List.mem_cons.mp ha with ea | ha' <;> rcases List.mem_cons.mp hb with eb | hb'
    · rw [ea, eb]
    · subst ea; exact absurd (e ▸ List.mem_map_of_mem hb') nd2.1
    · subst eb; exact absurd (e ▸ List.mem_map_of_mem ha') nd2.1
    · exact ih nd2.2 ha' hb'
theorem fnl_put {rs : List Row} {ab : List Str} {x : Str} (nd : (namesOf rs).Nodup) : Fnl (putU rs ab x) := by
  rintro u a b ⟨r, hr, e, _, _, rfl⟩ ⟨q, hq, e', _, _, rfl⟩
  rw [row_eq nd hr hq (e.trans e'.symm)]
/-! they stay in their kind, and are undone -/
theorem isN_of {c : Tr} {l : Str} (h : c.isN l = true) : ∃ ks, c = .node l ks := by
  cases c with
  | leaf x => cases h
  | node m ks => exact ⟨ks, by rw [show m = l from of_decide_eq_true h]⟩
theorem isN_not {c : Tr} {l m : Str} {ks : List Tr} (h : m ≠ l) : (Tr.node m ks).isN l = false := decide_eq_false h
theorem turn_len {n : Str} {cs : List Tr} {k : Nat} : (turn n cs k).length = k := mk_len
theorem turn_get {n : Str} {cs : List Tr} {k i : Nat} (h : i < k) : (turn n cs k)[i]? = some (.node n (cs.map fun c => c.ks.getD i (.leaf n))) := by
  unfold turn mk
  rw [List.getElem?_map, List.getElem?_range h]; rfl
theorem turn_mem {n : Str} {cs : List Tr} {k : Nat} {d : Tr} (h : d ∈ turn n cs k) : ∃ i, i < k ∧ d = .node n (cs.map fun c => c.ks.getD i (.leaf n)) := by
  unfold turn mk at h
  obtain ⟨i, hi, rfl⟩ := List.mem_map.mp h
  exact ⟨i, List.mem_range.mp hi, rfl⟩
/-- under one set all have as many children -/
theorem TOk.arity {us : List Str} {rs : List Row} (nd : (namesOf rs).Nodup) {l : Str} {a b : List Tr} (ha : TOk us rs (.node l a)) (hb : TOk us rs (.node l b)) : a.length = b.length := by
  obtain ⟨r, hr, e, h1, _⟩ := ha.kid
  obtain ⟨q, hq, e', h2, _⟩ := hb.kid
  rw [h1, h2, row_eq nd hr hq (e.trans e'.symm)]
theorem swap_ok {us : List Str} {rs : List Row} {u u' : Tr} (ok : RsOk rs) (h : TOk us rs u) (s : swapU u u') : TOk us rs u' := by
  obtain ⟨n, cs, l, ks, rfl, h0, hall, rfl⟩ := s
  obtain ⟨r, hr, rfl, hl, hk⟩ := h.kid
  have h1 := hk _ (List.mem_of_getElem? h0)
  obtain ⟨q, hq, rfl, hql, hqk⟩ := h1.kid
  have hq2 := offN_mem.mp hq
  refine .node hq2.1 (by rw [turn_len]; exact hql) fun d hd => ?_
  obtain ⟨i, hi, rfl⟩ := turn_mem hd
  refine .node (offN_mem.mpr ⟨hr, hq2.2.symm⟩) (by rw [List.length_map]; exact hl) fun e he => ?_
  obtain ⟨c, hc, rfl⟩ := List.mem_map.mp he
  obtain ⟨kc, rfl⟩ := isN_of (hall c hc)
  have hcl := TOk.arity (ok.off (x := r.nm)).nd (hk _ hc) h1
  obtain ⟨q', hq', e', hql', hqk'⟩ := (hk _ hc).kid
  show TOk us _ (kc.getD i _)
  have hik : i < kc.length := by omega
  rw [getD_at (List.getElem?_eq_getElem hik), offN_comm]
  exact hqk' _ (List.getElem_mem hik)
theorem swap_back {us : List Str} {rs : List Row} {u u' : Tr} (ok : RsOk rs) (h : TOk us rs u) (s : swapU u u') : swapU u' u := by
  obtain ⟨n, cs, l, ks, rfl, h0, hall, rfl⟩ := s
  obtain ⟨r, hr, rfl, hl, hk⟩ := h.kid
  have h1 := hk _ (List.mem_of_getElem? h0)
  obtain ⟨q, hq, rfl, hql, hqk⟩ := h1.kid
  have hq2 := offN_mem.mp hq
  have k1 : 1 ≤ ks.length := by rw [hql]; exact ok.l1 _ hq2.1
  refine ⟨q.nm, _, r.nm, _, rfl, turn_get (by omega), fun d hd => ?_, ?_⟩
  · obtain ⟨i, hi, rfl⟩ := turn_mem hd
    exact decide_eq_true rfl
  · rw [List.length_map]
    congr 1
    refine List.ext_getElem? fun j => ?_
    by_cases hj : j < cs.length
    · rw [turn_get hj, List.getElem?_eq_getElem hj]
      have hm := List.getElem_mem hj
      obtain ⟨kc, hkc⟩ := isN_of (hall _ hm)
      have hcl := TOk.arity (ok.off (x := r.nm)).nd (hkc ▸ hk _ hm) h1
      rw [hkc]
      congr 2
      unfold turn
      rw [mk_map]
      refine (mk_of kc (.leaf r.nm)).trans ?_
      rw [hcl]
      unfold mk
      refine List.map_congr_left fun i hi => ?_
      show _ = (List.map _ cs).getD j _
      refine (getD_at ?_).symm
      rw [List.getElem?_map, List.getElem?_eq_getElem hj, hkc]; rfl
    · rw [List.getElem?_eq_none (by omega), List.getElem?_eq_none (by rw [turn_len]; omega)]
theorem take_ok {us : List Str} {rs : List Row} {u u' : Tr} (h : TOk us rs u) (s : takeU u u') : TOk us rs u' := by
  obtain ⟨n, cs, rfl, h0, _⟩ := s
  obtain ⟨r, hr, rfl, hl, hk⟩ := h.kid
  have := hk _ (List.mem_of_getElem? h0)
  exact this.wide
theorem put_ok {us : List Str} {rs qs : List Row} {ab : List Str} {x : Str} {u u' : Tr} (hq : ∀ r, r ∈ qs ↔ r ∈ rs ∧ r.nm ∉ ab) (h : TOk us qs u) (s : putU rs ab x u u') : TOk us qs u' := by
  obtain ⟨r, hr, rfl, h1, h2, rfl⟩ := s
  refine .node ((hq r).mpr ⟨hr, h2⟩) (by rw [List.length_replicate]) fun c hc => ?_
  rw [List.eq_of_mem_replicate hc]
  exact h.off h1
theorem put_back {rs : List Row} {ab : List Str} {x : Str} {u u' : Tr} (l1 : ∀ r ∈ rs, 1 ≤ r.ws.length) (s : putU rs ab x u u') : takeU u' u := by
  obtain ⟨r, hr, rfl, h1, h2, rfl⟩ := s
  refine ⟨_, _, rfl, ?_, fun c hc => List.eq_of_mem_replicate hc⟩
  rw [List.getElem?_replicate, if_pos (by have := l1 r hr; omega)]
theorem take_back {us : List Str} {rs qs : List Row} {ab : List Str} {x : Str} {cs : List Tr} {u' : Tr} (hq : ∀ r, r ∈ qs ↔ r ∈ rs ∧ r.nm ∉ ab) (h : TOk us qs (.node x cs)) (s : takeU (.node x cs) u') : putU rs ab x u' (.node x cs) := by
  obtain ⟨n, cs', e, h0, hall⟩ := s
  cases e
  obtain ⟨r, hr, rfl, hl, hk⟩ := h.kid
  obtain ⟨hr1, hr2⟩ := (hq r).mp hr
  refine ⟨r, hr1, rfl, (hk _ (List.mem_of_getElem? h0)).not, hr2, ?_⟩
  rw [← hl]
  congr 1
  exact List.eq_replicate_iff.mpr ⟨rfl, hall⟩

abbrev lettersS : Str := "abcdefghijklmnopqrstuvwxyz"
abbrev digitsS : Str := "0123456789"
def sgnB (c : Nat) : Bool := hasS ⟨#[c]⟩ lettersS || hasS ⟨#[c]⟩ digitsS
def nameB (w : Str) : Bool := decide (1 ≤ w.length ∧ w.length ≤ 12) && (match w.cps[0]? with | some c => hasS ⟨#[c]⟩ lettersS | none => false) && w.cps.toList.all sgnB
theorem low_in : ∀ c ∈ lowC, hasS ⟨#[c]⟩ lettersS = true := by decide +kernel
theorem sig_in : ∀ c ∈ signC, sgnB c = true := by decide +kernel
theorem Nm.nameB {x : Str} (h : Nm x) : nameB x = true := by
  obtain ⟨c, r, e, h1, h2, h3⟩ := h.ex
  have hl : x.length = 1 + r.length := by rw [str_len, e, List.length_cons]; omega
  have h0 : x.cps[0]? = some c := by rw [← Array.getElem?_toList, e]; rfl
  unfold PL.nameB
  rw [h0, decide_eq_true (by omega), Bool.true_and]
  show (hasS ⟨#[c]⟩ lettersS && x.cps.toList.all sgnB) = true
  rw [low_in c h1, Bool.true_and, e, List.all_cons]
  have hs : sgnB c = true := by unfold sgnB; rw [low_in c h1]; rfl
  rw [hs, Bool.true_and, List.all_eq_true]
  exact fun d hd => sig_in d (h2 d hd)
def headB (w : Str) : Bool := decide (1 ≤ w.length ∧ w.length ≤ 12) && (match w.cps[0]? with | some c => hasS ⟨#[c]⟩ lettersS | none => false)
theorem nameB_eq (w : Str) : nameB w = (headB w && w.cps.toList.all sgnB) := rfl
theorem sg_at {x : Str} {i : Nat} {p : PV} (h : (signs x)[i]? = some p) : ∃ c, x.cps.toList[i]? = some c ∧ p = .str ⟨#[c]⟩ := by
  unfold signs at h
  rw [List.getElem?_map] at h
  cases e : x.cps.toList[i]? with
  | none => rw [e] at h; cases h
  | some z => rw [e] at h; exact ⟨z, rfl, (Option.some.inj h).symm⟩
theorem sg_len {x : Str} : (signs x).length = x.cps.toList.length := by unfold signs; exact List.length_map _
theorem find_mem {rs : List Row} {x : Str} {r : Row} (h : rs.find? (fun r => decide (r.nm = x)) = some r) : x ∈ namesOf rs := by
  have h1 := List.mem_of_find?_eq_some h
  have h2 := List.find?_some h
  exact (of_decide_eq_true h2) ▸ List.mem_map_of_mem h1
theorem find_nin {rs : List Row} {x : Str} (h : rs.find? (fun r => decide (r.nm = x)) = none) : x ∉ namesOf rs := fun hm => by
  obtain ⟨r, hr, e⟩ := List.mem_map.mp hm
  exact List.find?_eq_none.mp h r hr (decide_eq_true e)
def sp_is_name (K : Kf) : PSpec := fun vs M Q _ => ∃ x : Str, vs = [.str x] ∧ x.length ≤ 1000 ∧ Q (.bl (nameB x)) M
theorem sp_is_name_len {K : Kf} {vs : List PV} {M : PHp} {Q : PVK} {E : PXK} (h : sp_is_name K vs M Q E) : vs.length = 1 := by
  obtain ⟨_, rfl, _⟩ := h; rfl

theorem ok_is_name {P : Program} {w : World} {K : Kf} {mg : Str → Option Value} {base : Heap} (h0 : Here K mg "is_name" s_is_name ["word"]) (T : Blt mg) (Z : Zc K mg) (XC : Xc K mg) (Su : Sure P base)  : Callee P w K mg base 34 "is_name" ["word"] (sp_is_name K) := by
  have z_Derivation_start : FldOk K (clsA K "Derivation") "start" := ⟨Z.cls_Derivation, Z.f_Derivation_start⟩
  have z_Derivation_end : FldOk K (clsA K "Derivation") "end" := ⟨Z.cls_Derivation, Z.f_Derivation_end⟩
  have z_Derivation_steps : FldOk K (clsA K "Derivation") "steps" := ⟨Z.cls_Derivation, Z.f_Derivation_steps⟩
  have z_Derivation_back : FldOk K (clsA K "Derivation") "back" := ⟨Z.cls_Derivation, Z.f_Derivation_back⟩
  have z_Derivation__stage_rows : FldOk K (clsA K "Derivation") "_stage_rows" := ⟨Z.cls_Derivation, Z.f_Derivation__stage_rows⟩
  have z_Draft_start : FldOk K (clsA K "Draft") "start" := ⟨Z.cls_Draft, Z.f_Draft_start⟩
  have z_Draft_game : FldOk K (clsA K "Draft") "game" := ⟨Z.cls_Draft, Z.f_Draft_game⟩
  have z_Draft__done_steps : FldOk K (clsA K "Draft") "_done_steps" := ⟨Z.cls_Draft, Z.f_Draft__done_steps⟩
  have z_Draft__back_steps : FldOk K (clsA K "Draft") "_back_steps" := ⟨Z.cls_Draft, Z.f_Draft__back_steps⟩
  have z_Draft__rows_so_far : FldOk K (clsA K "Draft") "_rows_so_far" := ⟨Z.cls_Draft, Z.f_Draft__rows_so_far⟩
  refine ok_of h0 sc_is_name (fun vs M Q E h => sp_is_name_len h) (fun f cdv A outer s H E hr => ⟨_, (psscons (psifc (PW.pt (pwor (ptnot (ptchain opLe opLe pinT (pcallB (cLenK (K := K)) (by rfl) T.b_len (by decide +kernel) (pacons (pv 0) panil)) (pglobI (by rfl) T.c_LONGEST_NAME))) (pwor1 (ptcmp opNotInS (pixK (K := K) (pv 0) pinT) (pglobS (by rfl) T.c_LETTERS) rfl)))) (pssone (psret pbl)) pssnil)
      (psscons (psfor PassesOwn.never rfl (piseqK (K := K) (pv 0)) (pgname (i := 1) sc_is_name.nd) (pssone (psif (PW.pt (pwand (ptcmp opNotInS (pv 1) (pglobS (by rfl) T.c_LETTERS) rfl) (pwand1 (ptcmp opNotInS (pv 1) (pglobS (by rfl) T.c_DIGITS) rfl)))) (pssone (psret pbl)) pssnil)))
      (pssone (psret pbl)))), fun vs M Q Ep h => ?_⟩)
  obtain ⟨x, rfl, hl, k⟩ := h
  have hsz : x.length ≤ sizeLine := by rw [sizeLine_eq]; omega
  walk_at "go"
  refine ⟨fun b M' => M' = M ∧ (b = true → nameB x = false) ∧ (b = false → headB x = true), ?_, ?_⟩
  · walk_at "on"
    refine ⟨hsz, ?_⟩
    walk_at "on"
    refine br_dec (fun h1 => ?_) (fun h1 => ?_)
    · walk_at "on"
      refine br_ndec (c := ((x.length : Int) ≤ 12)) (fun h2 => ?_) (fun h2 => ?_)
      · refine ⟨_, .refl _, rfl, fun _ => ?_, fun q => by cases q⟩
        rw [nameB_eq, headB, decide_eq_false (by omega)]; rfl
      · obtain ⟨c, hc⟩ : ∃ c, x.cps[0]? = some c := by
          have : 0 < x.cps.size := by have : 1 ≤ x.cps.size := by exact_mod_cast h1
                                      omega
          exact ⟨_, Array.getElem?_eq_getElem this⟩
        have hca : atI x.cps.toList 0 = some c := atI_nat (xs := x.cps.toList) (j := 0) (by rw [Array.getElem?_toList]; exact hc)
        have hh : headB x = hasS ⟨#[c]⟩ lettersS := by
          rw [headB, hc, decide_eq_true (by omega), Bool.true_and]
        walk_at "on"
        refine ⟨hsz, c, hca, ?_⟩
        walk_at "on"
        refine ⟨_, .refl _, rfl, fun q => ?_, fun q => ?_⟩
        · rw [nameB_eq, hh]
          have q : hasS ⟨#[c]⟩ lettersS = false := by simpa using q
          rw [q]; rfl
        · rw [hh]; simpa using q
    · walk_at "on"
      refine ⟨_, .refl _, rfl, fun _ => ?_, fun q => by cases q⟩
      rw [nameB_eq, headB, decide_eq_false (by omega)]; rfl
  rintro b M' ⟨rfl, hb1, hb2⟩
  refine br_of (fun hb => ?_) (fun hb => ?_)
  · walk_at "on"
    rw [hb1 hb] at k
    exact ⟨_, .refl _, k⟩
  have hh := hb2 hb
  walk_at "on"
  refine ⟨fun i σ M1 => ∃ w1 : Option PV, σ = [some (.str x), w1] ∧ M1 = M' ∧ ∀ j c, j < i → x.cps.toList[j]? = some c → sgnB c = true, ⟨_, _, .refl _, .refl _, _, rfl, rfl, fun j c hj => absurd hj (by omega)⟩, ?_, ?_, ?_⟩
  · intros; trivial
  · rintro i z σ M1 hz ⟨w1, rfl, rfl, hj⟩
    obtain ⟨c, hc, rfl⟩ := sg_at hz
    have bad : sgnB c = false → nameB x = false := fun q => by
      rw [nameB_eq, hh, Bool.true_and, List.all_eq_false]
      exact ⟨c, List.mem_of_getElem? hc, by rw [q]; exact Bool.false_ne_true⟩
    have nx : sgnB c = true → ∀ j d, j < i + 1 → x.cps.toList[j]? = some d → sgnB d = true := fun q j d hj2 hd => by
      by_cases e : j = i
      · subst e; rw [hc] at hd; cases hd; exact q
      · exact hj j d (by omega) hd
    walk_at "on"
    refine br_of (fun h1 => ?_) (fun h1 => ?_)
    · have h1 : hasS ⟨#[c]⟩ lettersS = false := by simpa using h1
      walk_at "on"
      refine br_of (fun h2 => ?_) (fun h2 => ?_)
      · have h2 : hasS ⟨#[c]⟩ digitsS = false := by simpa using h2
        walk_at "on"
        rw [bad (by unfold sgnB; rw [h1, h2]; rfl)] at k
        exact ⟨_, .refl _, k⟩
      · have h2 : hasS ⟨#[c]⟩ digitsS = true := by simpa using h2
        walk_at "on"
        exact ⟨_, _, by walk_at "subs", .refl _, _, rfl, rfl, nx (by unfold sgnB; rw [h2, Bool.or_true])⟩
    · have h1 : hasS ⟨#[c]⟩ lettersS = true := by simpa using h1
      walk_at "on"
      exact ⟨_, _, by walk_at "subs", .refl _, _, rfl, rfl, nx (by unfold sgnB; rw [h1]; rfl)⟩
  · rintro σ M1 ⟨w1, rfl, rfl, hj⟩
    rw [sg_len] at hj
    have e : nameB x = true := by
      rw [nameB_eq, hh, Bool.true_and, List.all_eq_true]
      intro c hc
      obtain ⟨j, hj2⟩ := List.getElem?_of_mem hc
      exact hj j c (lt_of_get hj2) hj2
    rw [e] at k
    walk_at "on"
    exact ⟨_, .refl _, k⟩

def sp_is_new_name (K : Kf) : PSpec := fun vs M Q _ => ∃ (rs : List Row) (t : PV) (x : Str), vs = [.tup [rowsV rs, t], .str x] ∧ x.length ≤ 1000 ∧ Q (.bl (nameB x && decide (x ∉ namesOf rs))) M
theorem sp_is_new_name_len {K : Kf} {vs : List PV} {M : PHp} {Q : PVK} {E : PXK} (h : sp_is_new_name K vs M Q E) : vs.length = 2 := by
  obtain ⟨_, _, _, rfl, _⟩ := h; rfl

theorem ok_is_new_name {P : Program} {w : World} {K : Kf} {mg : Str → Option Value} {base : Heap} (h0 : Here K mg "is_new_name" s_is_new_name ["game", "name"]) (T : Blt mg) (Z : Zc K mg) (XC : Xc K mg) (Su : Sure P base) (C_is_name : Callee P w K mg base 34 "is_name" ["word"] (sp_is_name K)) (C_row_of : Callee P w K mg base 34 "row_of" ["game", "name"] (sp_row_of K)) : Callee P w K mg base 35 "is_new_name" ["game", "name"] (sp_is_new_name K) := by
  have z_Derivation_start : FldOk K (clsA K "Derivation") "start" := ⟨Z.cls_Derivation, Z.f_Derivation_start⟩
  have z_Derivation_end : FldOk K (clsA K "Derivation") "end" := ⟨Z.cls_Derivation, Z.f_Derivation_end⟩
  have z_Derivation_steps : FldOk K (clsA K "Derivation") "steps" := ⟨Z.cls_Derivation, Z.f_Derivation_steps⟩
  have z_Derivation_back : FldOk K (clsA K "Derivation") "back" := ⟨Z.cls_Derivation, Z.f_Derivation_back⟩
  have z_Derivation__stage_rows : FldOk K (clsA K "Derivation") "_stage_rows" := ⟨Z.cls_Derivation, Z.f_Derivation__stage_rows⟩
  have z_Draft_start : FldOk K (clsA K "Draft") "start" := ⟨Z.cls_Draft, Z.f_Draft_start⟩
  have z_Draft_game : FldOk K (clsA K "Draft") "game" := ⟨Z.cls_Draft, Z.f_Draft_game⟩
  have z_Draft__done_steps : FldOk K (clsA K "Draft") "_done_steps" := ⟨Z.cls_Draft, Z.f_Draft__done_steps⟩
  have z_Draft__back_steps : FldOk K (clsA K "Draft") "_back_steps" := ⟨Z.cls_Draft, Z.f_Draft__back_steps⟩
  have z_Draft__rows_so_far : FldOk K (clsA K "Draft") "_rows_so_far" := ⟨Z.cls_Draft, Z.f_Draft__rows_so_far⟩
  refine ok_of h0 sc_is_new_name (fun vs M Q E h => sp_is_new_name_len h) (fun f cdv A outer s H E hr => ⟨_, (pssone (psret (pand (pcall C_is_name (by exact hr.mono (by first | decide | omega)) (pacons (pv 1) panil)) (pone (pcmp opIsN (pcall C_row_of (by exact hr.mono (by first | decide | omega)) (pacons (pv 0) (pacons (pv 1) panil))) pnon (nomark _)))))), fun vs M Q Ep h => ?_⟩)
  obtain ⟨rs, t, x, rfl, hl, k⟩ := h
  walk_at "go"
  refine ⟨x, rfl, hl, ?_⟩
  walk_at "on"
  cases hn : nameB x with
  | false =>
    rw [hn] at k
    walk_at "on"
    exact ⟨_, .refl _, k⟩
  | true =>
    rw [hn] at k
    walk_at "on"
    refine ⟨rs, t, x, rfl, fun r hr => ?_, fun hr => ?_⟩
    · rw [decide_eq_false (fun q => q (find_mem hr))] at k
      walk_at "on"
      exact ⟨_, .refl _, k⟩
    · rw [decide_eq_true (find_nin hr)] at k
      walk_at "on"
      exact ⟨_, .refl _, k⟩

abbrev iv (p : List Int) : PV := .tup (p.map PV.int)

/-! steps on rows -/
inductive RStep where
  | add (x : Str) (o : Int) (ws : List Int)
  | drop (x : Str)
  | ren (x y : Str)
  | ord (x : Str) (ps : List Int)
def RStep.pv : RStep → PV
  | .add x o ws => .tup [.str "add", .str x, .int o, iv ws]
  | .drop x => .tup [.str "drop", .str x]
  | .ren x y => .tup [.str "rename", .str x, .str y]
  | .ord x ps => .tup [.str "order", .str x, iv ps]
mutual
def relT (x y : Str) : Tr → Tr
  | .leaf z => .leaf z
  | .node n cs => .node (if n = x then y else n) (relTs x y cs)
def relTs (x y : Str) : List Tr → List Tr
  | [] => []
  | c :: r => relT x y c :: relTs x y r
end
mutual
def ordT (x : Str) (ps : List Nat) : Tr → Tr
  | .leaf z => .leaf z
  | .node n cs => .node n (if n = x then ps.map (fun m => (ordTs x ps cs).getD m (.leaf x)) else ordTs x ps cs)
def ordTs (x : Str) (ps : List Nat) : List Tr → List Tr
  | [] => []
  | c :: r => ordT x ps c :: ordTs x ps r
end
theorem relTs_map {x y : Str} : ∀ cs : List Tr, relTs x y cs = cs.map (relT x y)
  | [] => by unfold relTs; rfl
  | c :: r => by unfold relTs; rw [relTs_map r]; rfl
theorem ordTs_map {x : Str} {ps : List Nat} : ∀ cs : List Tr, ordTs x ps cs = cs.map (ordT x ps)
  | [] => by unfold ordTs; rfl
  | c :: r => by unfold ordTs; rw [ordTs_map r]; rfl
theorem relT_node {x y n : Str} {cs : List Tr} : relT x y (.node n cs) = .node (if n = x then y else n) (cs.map (relT x y)) := by
  conv => lhs; unfold relT
  rw [relTs_map]
theorem relT_leaf {x y z : Str} : relT x y (.leaf z) = .leaf z := by unfold relT; rfl
theorem ordT_node {x n : Str} {ps : List Nat} {cs : List Tr} : ordT x ps (.node n cs) = .node n (if n = x then ps.map (fun m => (cs.map (ordT x ps)).getD m (.leaf x)) else cs.map (ordT x ps)) := by
  conv => lhs; unfold ordT
  rw [ordTs_map]
theorem ordT_leaf {x z : Str} {ps : List Nat} : ordT x ps (.leaf z) = .leaf z := by unfold ordT; rfl
/-- not too deep, not too broad -/
inductive BT : Nat → Tr → Prop
  | leaf {n x} : BT (n + 1) (.leaf x)
  | node {n x cs} : cs.length ≤ 1000 → (∀ c ∈ cs, BT n c) → BT (n + 1) (.node x cs)
/-- the nodes of x have k children -/
inductive AT (x : Str) (k : Nat) : Tr → Prop
  | leaf {z} : AT x k (.leaf z)
  | node {n cs} : (n = x → cs.length = k) → (∀ c ∈ cs, AT x k c) → AT x k (.node n cs)
theorem TOk.bt {us : List Str} : ∀ {n : Nat} {rs : List Row} {t : Tr}, TOk us rs t → (∀ r ∈ rs, r.ws.length ≤ 1000) → rs.length < n → BT n t
  | 0, rs, _, _, _, h => absurd h (by omega)
  | n + 1, rs, _, .leaf _, _, _ => .leaf
  | n + 1, rs, _, .node (r := r) (cs := cs) hr hl hc, h2, h => .node (by rw [hl]; exact h2 _ hr) fun c hcm => TOk.bt (hc c hcm) (fun q hq => h2 q (offN_sub hq)) (by have := offN_len hr; omega)
theorem TOk.at_ {us : List Str} {x : Str} {r : Row} {rs : List Row} {t : Tr} (h : TOk us rs t) : (namesOf rs).Nodup → (∀ q ∈ rs, q.nm = x → q.ws.length = r.ws.length) → AT x r.ws.length t := by
  induction h with
  | leaf _ => exact fun _ _ => .leaf
  | node hr hl hc ih => exact fun nd hq => .node (fun e => by rw [hl]; exact hq _ hr e) fun c hcm => ih c hcm (nd.sublist (List.filter_sublist.map _)) fun q hq2 => hq q (offN_sub hq2)
theorem BT.rel {x y : Str} {n : Nat} {t : Tr} (h : BT n t) : BT n (relT x y t) := by
  induction h with
  | leaf => rw [relT_leaf]; exact .leaf
  | node hl hc ih =>
    rw [relT_node]
    refine .node (by rw [List.length_map]; exact hl) fun c hc2 => ?_
    obtain ⟨d, hd, rfl⟩ := List.mem_map.mp hc2
    exact ih d hd
theorem AT.kid {x n : Str} {k : Nat} {cs : List Tr} (h : AT x k (.node n cs)) : (n = x → cs.length = k) ∧ ∀ c ∈ cs, AT x k c := by
  cases h with
  | node h1 h2 => exact ⟨h1, h2⟩
theorem ord_get {x : Str} {ps : List Nat} {cs : List Tr} {d : Tr} (hps : ∀ m ∈ ps, m < cs.length) (h : d ∈ ps.map (fun m => (cs.map (ordT x ps)).getD m (.leaf x))) : ∃ c ∈ cs, d = ordT x ps c := by
  obtain ⟨m, hm, rfl⟩ := List.mem_map.mp h
  have hl := hps m hm
  exact ⟨cs[m], List.getElem_mem hl, getD_at (by rw [List.getElem?_map, List.getElem?_eq_getElem hl]; rfl)⟩
theorem BT.ord {x : Str} {ps : List Nat} {k n : Nat} {t : Tr} (hp : ps.length = k) (hk : k ≤ 1000) (hps : ∀ m ∈ ps, m < k) (h : BT n t) : AT x k t → BT n (ordT x ps t) := by
  induction h with
  | leaf => intro _; rw [ordT_leaf]; exact .leaf
  | @node n m cs hl hc ih =>
    intro ha
    obtain ⟨a1, a2⟩ := ha.kid
    rw [ordT_node]
    split
    · rename_i e
      refine .node (by rw [List.length_map]; omega) fun d hd => ?_
      obtain ⟨c, hcm, rfl⟩ := ord_get (fun m hm => by rw [a1 e]; exact hps m hm) hd
      exact ih c hcm (a2 c hcm)
    · refine .node (by rw [List.length_map]; exact hl) fun d hd => ?_
      obtain ⟨c, hcm, rfl⟩ := List.mem_map.mp hd
      exact ih c hcm (a2 c hcm)
theorem AT.ord {x : Str} {ps : List Nat} {k : Nat} {t : Tr} (hp : ps.length = k) (hps : ∀ m ∈ ps, m < k) (h : AT x k t) : AT x k (ordT x ps t) := by
  induction h with
  | leaf => rw [ordT_leaf]; exact .leaf
  | @node n cs a1 a2 ih =>
    rw [ordT_node]
    refine .node (fun e => by rw [if_pos e, List.length_map]; exact hp) fun d hd => ?_
    split at hd
    · rename_i e
      obtain ⟨c, hcm, rfl⟩ := ord_get (fun m hm => by rw [a1 e]; exact hps m hm) hd
      exact ih c hcm
    · obtain ⟨c, hcm, rfl⟩ := List.mem_map.mp hd
      exact ih c hcm
mutual
theorem relT_back {x y : Str} : ∀ {t : Tr}, y ∉ nmT t → relT y x (relT x y t) = t
  | .leaf z, _ => by rw [relT_leaf, relT_leaf]
  | .node n cs, h => by
    have hn : n ≠ y := fun e => h (nmT_node.mpr (.inl e.symm))
    rw [relT_node, relT_node, List.map_map, ← List.map_map, ← relTs_map, ← relTs_map, relTs_back fun q => h (by unfold nmT; exact List.mem_cons_of_mem _ q)]
    congr 1
    by_cases e : n = x
    · rw [if_pos e, if_pos rfl, e]
    · rw [if_neg e, if_neg hn]
theorem relTs_back {x y : Str} : ∀ {cs : List Tr}, y ∉ nmTs cs → relTs y x (relTs x y cs) = cs
  | [], _ => by unfold relTs; unfold relTs; rfl
  | c :: r, h => by
    unfold nmTs at h
    rw [List.mem_append, not_or] at h
    rw [relTs_map, relTs_map, List.map_cons, List.map_cons, relT_back h.1, ← relTs_map, ← relTs_map, relTs_back h.2]
end
theorem ord_back {x : Str} {ps qs : List Nat} {k : Nat} (hl : ps.length = k) (hq : qs.length = k) (hps : ∀ m ∈ ps, m < k) (hqs : ∀ m ∈ qs, m < k) (inv : ∀ i (h : i < k), ps.getD (qs.getD i 0) 0 = i) {t : Tr} (h : AT x k t) : ordT x qs (ordT x ps t) = t := by
  induction h with
  | leaf => rw [ordT_leaf, ordT_leaf]
  | @node n cs a1 a2 ih =>
    have ec : (cs.map (ordT x ps)).map (ordT x qs) = cs := by
      rw [List.map_map]
      conv => rhs; rw [← List.map_id cs]
      exact List.map_congr_left fun c hc => ih c hc
    rw [ordT_node, ordT_node]
    congr 1
    by_cases e : n = x
    · rw [if_pos e, if_pos e]
      have hk := a1 e
      refine List.ext_getElem? fun i => ?_
      by_cases hi : i < k
      · obtain ⟨m, hm⟩ : ∃ m, qs[i]? = some m := ⟨_, List.getElem?_eq_getElem (by omega)⟩
        have hmk := hqs m (List.mem_of_getElem? hm)
        obtain ⟨j, hj⟩ : ∃ j, ps[m]? = some j := ⟨_, List.getElem?_eq_getElem (by omega)⟩
        have hij : j = i := by
          have := inv i hi
          rwa [getD_at hm, getD_at hj] at this
        subst hij
        obtain ⟨c, hc⟩ : ∃ c, cs[j]? = some c := ⟨_, List.getElem?_eq_getElem (by omega)⟩
        rw [List.getElem?_map, hm, Option.map_some, hc]
        have h1 : (ps.map fun m => (cs.map (ordT x ps)).getD m (.leaf x))[m]? = some (ordT x ps c) := by
          rw [List.getElem?_map, hj, Option.map_some, getD_at (by rw [List.getElem?_map, hc]; rfl)]
        rw [getD_at (by rw [List.getElem?_map, h1]; rfl), ih _ (List.mem_of_getElem? hc)]
      · rw [List.getElem?_eq_none (by rw [List.length_map]; omega), List.getElem?_eq_none (by omega)]
    · rw [if_neg e, if_neg e, ec]

def sp_without_row (K : Kf) : PSpec := fun vs M Q _ => ∃ (rs : List Row) (x : Str), vs = [rowsV rs, .str x] ∧ rs.length ≤ 1000 ∧ Q (rowsV (rs.filter fun r => !decide (r.nm = x))) M
theorem sp_without_row_len {K : Kf} {vs : List PV} {M : PHp} {Q : PVK} {E : PXK} (h : sp_without_row K vs M Q E) : vs.length = 2 := by
  obtain ⟨_, _, rfl, _⟩ := h; rfl

theorem ok_without_row {P : Program} {w : World} {K : Kf} {mg : Str → Option Value} {base : Heap} (h0 : Here K mg "without_row" s_without_row ["sets", "name"]) (T : Blt mg) (Z : Zc K mg) (XC : Xc K mg) (Su : Sure P base)  : Callee P w K mg base 34 "without_row" ["sets", "name"] (sp_without_row K) := by
  have z_Derivation_start : FldOk K (clsA K "Derivation") "start" := ⟨Z.cls_Derivation, Z.f_Derivation_start⟩
  have z_Derivation_end : FldOk K (clsA K "Derivation") "end" := ⟨Z.cls_Derivation, Z.f_Derivation_end⟩
  have z_Derivation_steps : FldOk K (clsA K "Derivation") "steps" := ⟨Z.cls_Derivation, Z.f_Derivation_steps⟩
  have z_Derivation_back : FldOk K (clsA K "Derivation") "back" := ⟨Z.cls_Derivation, Z.f_Derivation_back⟩
  have z_Derivation__stage_rows : FldOk K (clsA K "Derivation") "_stage_rows" := ⟨Z.cls_Derivation, Z.f_Derivation__stage_rows⟩
  have z_Draft_start : FldOk K (clsA K "Draft") "start" := ⟨Z.cls_Draft, Z.f_Draft_start⟩
  have z_Draft_game : FldOk K (clsA K "Draft") "game" := ⟨Z.cls_Draft, Z.f_Draft_game⟩
  have z_Draft__done_steps : FldOk K (clsA K "Draft") "_done_steps" := ⟨Z.cls_Draft, Z.f_Draft__done_steps⟩
  have z_Draft__back_steps : FldOk K (clsA K "Draft") "_back_steps" := ⟨Z.cls_Draft, Z.f_Draft__back_steps⟩
  have z_Draft__rows_so_far : FldOk K (clsA K "Draft") "_rows_so_far" := ⟨Z.cls_Draft, Z.f_Draft__rows_so_far⟩
  refine ok_of h0 sc_without_row (fun vs M Q E h => sp_without_row_len h) (fun f cdv A outer s H E hr => ⟨_, (pssone (psret (pcallTy (cTupleK (K := K)) (by rfl) T.b_tuple (by decide +kernel) (pacons (plcF  rfl sc_without_row.nd (piseqK (K := K) (pv 0)) (blkOk_by (own := [("row", 2)]) (N := ["sets", "name", "row"]) (sc := defScope s_without_row) (by decide +kernel)) (tgName (by decide)) (fun _ _ _ _ _ => (pg_name (i := 2) sc_without_row.nd rfl (by first | exact Or.inl rfl | exact Or.inr rfl))) (fun _ _ _ _ _ => (ptsone (ptcmp (opNeK (K := K) (by exact hr.units)) (pixK (K := K) (pv 2) pinT) (pv 1) (nomark _)))) (fun _ _ _ _ _ => (pv 2))) panil)))), fun vs M Q Ep h => ?_⟩)
  obtain ⟨rs, x, rfl, hl, k⟩ := h
  walk_at "go"
  refine ⟨fun i => !decide ((rs.getD i r0).nm = x), fun i => (rs.getD i r0).pv, by rw [List.length_map]; omega, fun _ _ => trivial, fun i x M2 Q3 hx sb k3 => ?_, fun i x M2 Q2 hx hb sb k2 => ?_, fun Dl l hD hl => ?_⟩
  · obtain ⟨r, hr, rfl⟩ := row_at hx
    refine ⟨_, rfl, ?_⟩
    simp only [getD_at hr] at k3
    walk_at "on"
    exact k3 _ (.refl _)
  · obtain ⟨r, hr, rfl⟩ := row_at hx
    refine ⟨_, rfl, ?_⟩
    simp only [getD_at hr] at k2
    walk_at "on"
    exact k2 _ (.refl _)
  · rw [List.length_map, flt_list rs r0 (fun r => !decide (r.nm = x)) Row.pv] at hl
    subst hl
    walk_at "on"
    exact ⟨M, .new hD, k⟩

def sp_with_row (K : Kf) : PSpec := fun vs M Q _ => ∃ (rs : List Row) (r : Row), vs = [rowsV rs, r.pv] ∧ rs.length ≤ 1000 ∧ (∀ q ∈ rs ++ [r], q.ws.length ≤ 1000) ∧ (namesOf (rs ++ [r])).Nodup ∧ ∀ qs, qs.Perm (rs ++ [r]) → SortedN qs → Q (rowsV qs) M
theorem sp_with_row_len {K : Kf} {vs : List PV} {M : PHp} {Q : PVK} {E : PXK} (h : sp_with_row K vs M Q E) : vs.length = 2 := by
  obtain ⟨_, _, rfl, _⟩ := h; rfl

theorem ok_with_row {P : Program} {w : World} {K : Kf} {mg : Str → Option Value} {base : Heap} (h0 : Here K mg "with_row" s_with_row ["sets", "row"]) (T : Blt mg) (Z : Zc K mg) (XC : Xc K mg) (Su : Sure P base)  : Callee P w K mg base 34 "with_row" ["sets", "row"] (sp_with_row K) := by
  have z_Derivation_start : FldOk K (clsA K "Derivation") "start" := ⟨Z.cls_Derivation, Z.f_Derivation_start⟩
  have z_Derivation_end : FldOk K (clsA K "Derivation") "end" := ⟨Z.cls_Derivation, Z.f_Derivation_end⟩
  have z_Derivation_steps : FldOk K (clsA K "Derivation") "steps" := ⟨Z.cls_Derivation, Z.f_Derivation_steps⟩
  have z_Derivation_back : FldOk K (clsA K "Derivation") "back" := ⟨Z.cls_Derivation, Z.f_Derivation_back⟩
  have z_Derivation__stage_rows : FldOk K (clsA K "Derivation") "_stage_rows" := ⟨Z.cls_Derivation, Z.f_Derivation__stage_rows⟩
  have z_Draft_start : FldOk K (clsA K "Draft") "start" := ⟨Z.cls_Draft, Z.f_Draft_start⟩
  have z_Draft_game : FldOk K (clsA K "Draft") "game" := ⟨Z.cls_Draft, Z.f_Draft_game⟩
  have z_Draft__done_steps : FldOk K (clsA K "Draft") "_done_steps" := ⟨Z.cls_Draft, Z.f_Draft__done_steps⟩
  have z_Draft__back_steps : FldOk K (clsA K "Draft") "_back_steps" := ⟨Z.cls_Draft, Z.f_Draft__back_steps⟩
  have z_Draft__rows_so_far : FldOk K (clsA K "Draft") "_rows_so_far" := ⟨Z.cls_Draft, Z.f_Draft__rows_so_far⟩
  refine ok_of h0 sc_with_row (fun vs M Q E h => sp_with_row_len h) (fun f cdv A outer s H E hr => ⟨_, (pssone (psret (pcallTy (cTupleK (K := K)) (by rfl) T.b_tuple (by decide +kernel) (pacons (pcallB (cSortDK (K := K) (by exact hr.units)) (by rfl) T.b_sorted (by decide +kernel) (pacons (pop opAdd (pv 0) (ptup (pacons (pv 1) panil))) panil)) panil)))), fun vs M Q Ep h => ?_⟩)
  obtain ⟨rs, r, rfl, hl, hw, nd, k⟩ := h
  walk_at "go"
  refine ⟨by rw [List.length_map, sizeLine_eq]; simp; omega, ?_⟩
  walk_at "on"
  have e : rs.map Row.pv ++ [r.pv] = (rs ++ [r]).map Row.pv := by rw [List.map_append]; rfl
  rw [e]
  obtain ⟨qs, e2, pm, sn⟩ := sort_rows nd
  refine ⟨_, rfl, rows_pure hw, (rows_sortable _).1, (rows_sortable _).2, fun p hp => ?_⟩
  rw [e2]
  walk_at "on"
  exact ⟨M, .new hp, k qs pm sn⟩

abbrev BadS (K : Kf) : Value := .ref (clsA K "BadStep")
structure RwOk (rs : List Row) : Prop where
  sn : SortedN rs
  ls : ∀ r ∈ rs, r.ws.length ≤ 1000
  le : rs.length ≤ 1000
theorem nd_snoc {rs : List Row} {r : Row} (h : (namesOf rs).Nodup) (n : r.nm ∉ namesOf rs) : (namesOf (rs ++ [r])).Nodup := by
  rw [namesOf, List.map_append, List.nodup_append]
  refine ⟨h, by simp, fun a ha b hb e => n ?_⟩
  rw [List.map_singleton, List.mem_singleton] at hb
  rw [← hb, ← e]; exact ha

def sp_relabelled (K : Kf) (n : Nat) : PSpec := fun vs M Q _ => ∃ (t : Tr) (x y : Str), vs = [t.pv, .str x, .str y] ∧ BT n t ∧ Q (relT x y t).pv M
theorem sp_relabelled_len {K : Kf} {n : Nat} {vs : List PV} {M : PHp} {Q : PVK} {E : PXK} (h : sp_relabelled K n vs M Q E) : vs.length = 3 := by
  obtain ⟨_, _, _, rfl, _⟩ := h; rfl
theorem sp_relabelled_zero {K : Kf} {vs : List PV} {M : PHp} {Q : PVK} {E : PXK} (h : sp_relabelled K 0 vs M Q E) : False := by
  obtain ⟨_, _, _, rfl, h, _⟩ := h; cases h

theorem ok_relabelled {P : Program} {w : World} {K : Kf} {mg : Str → Option Value} {base : Heap} (h0 : Here K mg "relabelled" s_relabelled ["tree", "name", "new"]) (T : Blt mg) (Z : Zc K mg) (XC : Xc K mg) (Su : Sure P base)  : ∀ n : Nat, Callee P w K mg base (34 + n) "relabelled" ["tree", "name", "new"] (sp_relabelled K n)
  | 0 => (Callee.never (k := 33) h0 sc_relabelled).imp fun _ _ _ _ h => (sp_relabelled_zero h).elim
  | n + 1 => by
    have C_relabelled := ok_relabelled (P := P) (w := w) (base := base) h0 T Z XC Su  n
    have z_Derivation_start : FldOk K (clsA K "Derivation") "start" := ⟨Z.cls_Derivation, Z.f_Derivation_start⟩
    have z_Derivation_end : FldOk K (clsA K "Derivation") "end" := ⟨Z.cls_Derivation, Z.f_Derivation_end⟩
    have z_Derivation_steps : FldOk K (clsA K "Derivation") "steps" := ⟨Z.cls_Derivation, Z.f_Derivation_steps⟩
    have z_Derivation_back : FldOk K (clsA K "Derivation") "back" := ⟨Z.cls_Derivation, Z.f_Derivation_back⟩
    have z_Derivation__stage_rows : FldOk K (clsA K "Derivation") "_stage_rows" := ⟨Z.cls_Derivation, Z.f_Derivation__stage_rows⟩
    have z_Draft_start : FldOk K (clsA K "Draft") "start" := ⟨Z.cls_Draft, Z.f_Draft_start⟩
    have z_Draft_game : FldOk K (clsA K "Draft") "game" := ⟨Z.cls_Draft, Z.f_Draft_game⟩
    have z_Draft__done_steps : FldOk K (clsA K "Draft") "_done_steps" := ⟨Z.cls_Draft, Z.f_Draft__done_steps⟩
    have z_Draft__back_steps : FldOk K (clsA K "Draft") "_back_steps" := ⟨Z.cls_Draft, Z.f_Draft__back_steps⟩
    have z_Draft__rows_so_far : FldOk K (clsA K "Draft") "_rows_so_far" := ⟨Z.cls_Draft, Z.f_Draft__rows_so_far⟩
    refine ok_of (k := 34 + n) h0 sc_relabelled (fun vs M Q E h => sp_relabelled_len h) (fun f cdv A outer s H E hr => ⟨_, (psscons (psif (ptval (pcallB (cIsiK (K := K)) (by rfl) T.b_isinstance (by decide +kernel) (pacons (pv 0) (pacons (pbltn (p := .ty "str") (v := .ty "str") (by rfl) T.b_str (by decide +kernel) rfl (fun _ => .ty _)) panil)))) (pssone (psret (pv 0))) pssnil)
      (psscons (psset 3 sc_relabelled.nd (pcallTy (cTupleK (K := K)) (by rfl) T.b_tuple (by decide +kernel) (pacons (plcP  rfl sc_relabelled.nd (piseqK (K := K) (pixK (K := K) (pv 0) pinT)) (blkOk_by (own := [("child", 4)]) (N := ["tree", "name", "new", "children", "child"]) (sc := defScope s_relabelled) (by decide +kernel)) (tgName (by decide)) (fun _ _ _ _ _ => (pg_name (i := 4) sc_relabelled.nd rfl (by first | exact Or.inl rfl | exact Or.inr rfl))) (fun _ _ _ _ _ => (pcall C_relabelled (by exact hr.mono (by first | decide | omega)) (pacons (pv 4) (pacons (pv 1) (pacons (pv 2) panil)))))) panil)))
      (psscons (psif (ptcmp (opEqK (K := K) (by exact hr.units)) (pixK (K := K) (pv 0) pinT) (pv 1) (nomark _)) (pssone (psret (ptup (pacons (pv 2) (pacons (pv 3) panil))))) pssnil)
      (pssone (psret (ptup (pacons (pixK (K := K) (pv 0) pinT) (pacons (pv 3) panil)))))))), fun vs M Q Ep h => ?_⟩)
    obtain ⟨t, x, y, rfl, hb, k⟩ := h
    cases hb with
    | leaf =>
      rw [relT_leaf] at k
      walk_at "go"
      exact ⟨_, .refl _, k⟩
    | @node _ n' cs hl hc =>
      have pl : (Tr.pvs cs).length = cs.length := pvs_len
      rw [relT_node] at k
      have kv : (Tr.node (if n' = x then y else n') (cs.map (relT x y))).pv = .tup [.str (if n' = x then y else n'), .tup (cs.map fun c => (relT x y c).pv)] := by
        show PV.tup [.str _, .tup (Tr.pvs _)] = _
        rw [Tr.pvs_map, List.map_map]; rfl
      rw [kv] at k
      walk_at "go"
      refine ⟨fun i => (relT x y (cs.getD i (.leaf x))).pv, by omega, fun _ _ => trivial, fun i z M2 Q2 hz sb k3 => ?_, fun Dl l hD hl2 => ?_⟩
      · obtain ⟨c, hc2, rfl⟩ := kid_of hz
        refine ⟨_, rfl, ?_⟩
        simp only [getD_at hc2] at k3
        walk_at "on"
        exact ⟨c, x, y, rfl, hc c (List.mem_of_getElem? hc2), k3 _ (.refl _)⟩
      rw [pl, mk_list cs (.leaf x) (fun c => (relT x y c).pv)] at hl2
      subst hl2
      walk_at "on"
      refine br_dec (fun h => ?_) (fun h => ?_)
      · rw [if_pos h] at k
        walk_at "on"
        exact ⟨M, .new hD, k⟩
      · rw [if_neg h] at k
        walk_at "on"
        exact ⟨M, .new hD, k⟩
  
def sp_renamed (K : Kf) : PSpec := fun vs M Q E => ∃ (rs : List Row) (t : Tr) (x y : Str), vs = [gameV rs t, .str x, .str y] ∧ RwOk rs ∧ BT 13 t ∧ y.length ≤ 1000 ∧
  (∀ r qs, rs.find? (fun r => decide (r.nm = x)) = some r → nameB y = true → y ∉ namesOf rs → qs.Perm (offN rs x ++ [⟨y, r.ow, r.ws⟩]) → SortedN qs → Q (gameV qs (relT x y t)) M) ∧
  (¬ (x ∈ namesOf rs ∧ nameB y = true ∧ y ∉ namesOf rs) → E (BadS K) none M)
theorem sp_renamed_len {K : Kf} {vs : List PV} {M : PHp} {Q : PVK} {E : PXK} (h : sp_renamed K vs M Q E) : vs.length = 3 := by
  obtain ⟨_, _, _, _, rfl, _⟩ := h; rfl

theorem ok_renamed {P : Program} {w : World} {K : Kf} {mg : Str → Option Value} {base : Heap} (h0 : Here K mg "renamed" s_renamed ["game", "name", "new"]) (T : Blt mg) (Z : Zc K mg) (XC : Xc K mg) (Su : Sure P base) (C_is_new_name : Callee P w K mg base 35 "is_new_name" ["game", "name"] (sp_is_new_name K)) (C_relabelled : Callee P w K mg base 47 "relabelled" ["tree", "name", "new"] (sp_relabelled K 13)) (C_row_of : Callee P w K mg base 34 "row_of" ["game", "name"] (sp_row_of K)) (C_with_row : Callee P w K mg base 34 "with_row" ["sets", "row"] (sp_with_row K)) (C_without_row : Callee P w K mg base 34 "without_row" ["sets", "name"] (sp_without_row K)) : CalleeR (L2.CX P w) P w K mg base 48 "renamed" ["game", "name", "new"] (sp_renamed K) := by
  have z_Derivation_start : FldOk K (clsA K "Derivation") "start" := ⟨Z.cls_Derivation, Z.f_Derivation_start⟩
  have z_Derivation_end : FldOk K (clsA K "Derivation") "end" := ⟨Z.cls_Derivation, Z.f_Derivation_end⟩
  have z_Derivation_steps : FldOk K (clsA K "Derivation") "steps" := ⟨Z.cls_Derivation, Z.f_Derivation_steps⟩
  have z_Derivation_back : FldOk K (clsA K "Derivation") "back" := ⟨Z.cls_Derivation, Z.f_Derivation_back⟩
  have z_Derivation__stage_rows : FldOk K (clsA K "Derivation") "_stage_rows" := ⟨Z.cls_Derivation, Z.f_Derivation__stage_rows⟩
  have z_Draft_start : FldOk K (clsA K "Draft") "start" := ⟨Z.cls_Draft, Z.f_Draft_start⟩
  have z_Draft_game : FldOk K (clsA K "Draft") "game" := ⟨Z.cls_Draft, Z.f_Draft_game⟩
  have z_Draft__done_steps : FldOk K (clsA K "Draft") "_done_steps" := ⟨Z.cls_Draft, Z.f_Draft__done_steps⟩
  have z_Draft__back_steps : FldOk K (clsA K "Draft") "_back_steps" := ⟨Z.cls_Draft, Z.f_Draft__back_steps⟩
  have z_Draft__rows_so_far : FldOk K (clsA K "Draft") "_rows_so_far" := ⟨Z.cls_Draft, Z.f_Draft__rows_so_far⟩
  refine okR_z h0 sc_renamed (fun vs M Q E h => sp_renamed_len h) (fun f cdv A outer s H E Ep hr air tk own => ⟨_, (psscons (psset 3 sc_renamed.nd (pcall C_row_of (by exact hr.mono (by first | decide | omega)) (pacons (pv 0) (pacons (pv 1) panil))))
      (psscons (psif (PW.pt (pwor (ptcmp opIsN (pv 3) pnon (nomark _)) (pwor1 (ptnot (ptval (pcall C_is_new_name (by exact hr.mono (by first | decide | omega)) (pacons (pv 0) (pacons (pv 2) panil)))))))) (pssone (psraise air XC.o_BadStep)) pssnil)
      (psscons (psset 4 sc_renamed.nd (pcall C_with_row (by exact hr.mono (by first | decide | omega)) (pacons (pcall C_without_row (by exact hr.mono (by first | decide | omega)) (pacons (pixK (K := K) (pv 0) pinT) (pacons (pv 1) panil))) (pacons (ptup (pacons (pv 2) (pacons (pixK (K := K) (pv 3) pinT) (pacons (pixK (K := K) (pv 3) pinT) panil)))) panil))))
      (pssone (psret (ptup (pacons (pv 4) (pacons (pcall C_relabelled (by exact hr.mono (by first | decide | omega)) (pacons (pixK (K := K) (pv 0) pinT) (pacons (pv 1) (pacons (pv 2) panil)))) panil)))))))), fun vs M Q h => ?_⟩)
  obtain ⟨rs, t, x, y, rfl, ok, hb, hy, k1, k2⟩ := h
  walk_at "go"
  refine ⟨rs, t.pv, x, rfl, fun r hr => ?_, fun hr => ?_⟩
  · have hm := find_mem hr
    have hrm := List.mem_of_find?_eq_some hr
    walk_at "on"
    refine ⟨rs, t.pv, y, rfl, hy, ?_⟩
    walk_at "on"
    refine br_of (fun h => ?_) (fun h => ?_)
    · walk_at "on"
      refine ⟨_, .refl _, k2 fun q => ?_⟩
      rw [q.2.1, decide_eq_true q.2.2] at h
      cases h
    have h : nameB y = true ∧ y ∉ namesOf rs := by simpa using h
    walk_at "on"
    refine ⟨rs, x, rfl, ok.le, ?_⟩
    walk_at "on"
    refine ⟨offN rs x, ⟨y, r.ow, r.ws⟩, rfl, Nat.le_trans (List.length_filter_le _ _) ok.le, fun q hq => ?_, nd_snoc (ok.sn.nodup.sublist (List.filter_sublist.map _)) (fun q => h.2 ((List.filter_sublist.map Row.nm).subset q)), fun qs pm sn => ?_⟩
    · rcases List.mem_append.mp hq with q1 | q1
      · exact ok.ls q (offN_sub q1)
      · rw [List.mem_singleton.mp q1]; exact ok.ls r hrm
    walk_at "on"
    refine ⟨t, x, y, rfl, hb, ?_⟩
    walk_at "on"
    exact ⟨_, .refl _, k1 r qs hr h.1 h.2 pm sn⟩
  · walk_at "on"
    exact ⟨_, .refl _, k2 fun q => find_nin hr q.1⟩

theorem nodup_len {α : Type} [BEq α] [LawfulBEq α] : ∀ {l us : List α}, l.Nodup → (∀ x ∈ l, x ∈ us) → l.length ≤ us.length
  | [], _, _, _ => Nat.zero_le _
  | x :: l, us, nd, h => by
    obtain ⟨h1, h2⟩ := List.nodup_cons.mp nd
    have := nodup_len (l := l) (us := us.erase x) h2 fun y hy => (List.mem_erase_of_ne (fun e : y = x => h1 (e ▸ hy))).mpr (h y (List.mem_cons_of_mem _ hy))
    rw [List.length_erase_of_mem (h x List.mem_cons_self)] at this
    have := List.length_pos_of_mem (h x List.mem_cons_self)
    rw [List.length_cons]; omega

/-- m0, m1, .. -/
def frS (k : Nat) : Str := ("m" : Str) ++ numS k
theorem frS_nodup : ((List.range 128).map frS).Nodup := by decide +kernel
theorem num_len : ∀ k < 128, (numS k).cps.toList.length ≤ 3 := by decide +kernel
def fl (names : List Str) (m : Nat) : List Str := ((List.range m).map frS).filter fun x => !decide (x ∈ names)
theorem fl_succ (names : List Str) (m : Nat) : fl names (m + 1) = fl names m ++ (if frS m ∈ names then [] else [frS m]) := by
  unfold fl
  rw [List.range_succ, List.map_append, List.filter_append]
  by_cases h : frS m ∈ names <;> simp [h]
theorem fl_pre (names : List Str) {m n : Nat} (h : m ≤ n) : ∃ r, fl names n = fl names m ++ r := by
  induction n with
  | zero => rw [show m = 0 by omega]; exact ⟨[], (List.append_nil _).symm⟩
  | succ n ih =>
    by_cases e : m = n + 1
    · subst e; exact ⟨[], (List.append_nil _).symm⟩
    · obtain ⟨r, hr⟩ := ih (by omega)
      exact ⟨r ++ (if frS n ∈ names then [] else [frS n]), by rw [fl_succ, hr, List.append_assoc]⟩
theorem fl_len {names : List Str} {n : Nat} (h : n + names.length ≤ 128) : n ≤ (fl names (n + names.length)).length := by
  have nd : ((List.range (n + names.length)).map frS).Nodup := by
    refine List.Sublist.nodup ?_ frS_nodup
    exact (List.range_sublist.mpr h).map frS
  have h1 := len_two (fun x => decide (x ∈ names)) ((List.range (n + names.length)).map frS)
  have h2 := nodup_len (us := names) (nd.filter fun x => decide (x ∈ names)) fun x hx => by
    have := (List.mem_filter.mp hx).2
    exact of_decide_eq_true this
  rw [List.length_map, List.length_range] at h1
  unfold fl
  omega
def freshT (names : List Str) (n : Nat) : List Str := (fl names (n + names.length)).take n
theorem freshT_of {names : List Str} {n m : Nat} (h : m ≤ n + names.length) (hl : (fl names m).length = n) : freshT names n = fl names m := by
  obtain ⟨r, hr⟩ := fl_pre names h
  unfold freshT
  rw [hr, ← hl, List.take_left']
  rfl
def sp_fresh_names (K : Kf) : PSpec := fun vs M Q _ => ∃ (rs : List Row) (t : PV) (n : Nat), vs = [.tup [rowsV rs, t], .int (n : Int)] ∧ n + rs.length ≤ 120 ∧ Q (.tup ((freshT (namesOf rs) n).map PV.str)) M
theorem sp_fresh_names_len {K : Kf} {vs : List PV} {M : PHp} {Q : PVK} {E : PXK} (h : sp_fresh_names K vs M Q E) : vs.length = 2 := by
  obtain ⟨_, _, _, rfl, _⟩ := h; rfl

theorem ok_fresh_names {P : Program} {w : World} {K : Kf} {mg : Str → Option Value} {base : Heap} (h0 : Here K mg "fresh_names" s_fresh_names ["game", "count"]) (T : Blt mg) (Z : Zc K mg) (XC : Xc K mg) (Su : Sure P base)  : Callee P w K mg base 34 "fresh_names" ["game", "count"] (sp_fresh_names K) := by
  have z_Derivation_start : FldOk K (clsA K "Derivation") "start" := ⟨Z.cls_Derivation, Z.f_Derivation_start⟩
  have z_Derivation_end : FldOk K (clsA K "Derivation") "end" := ⟨Z.cls_Derivation, Z.f_Derivation_end⟩
  have z_Derivation_steps : FldOk K (clsA K "Derivation") "steps" := ⟨Z.cls_Derivation, Z.f_Derivation_steps⟩
  have z_Derivation_back : FldOk K (clsA K "Derivation") "back" := ⟨Z.cls_Derivation, Z.f_Derivation_back⟩
  have z_Derivation__stage_rows : FldOk K (clsA K "Derivation") "_stage_rows" := ⟨Z.cls_Derivation, Z.f_Derivation__stage_rows⟩
  have z_Draft_start : FldOk K (clsA K "Draft") "start" := ⟨Z.cls_Draft, Z.f_Draft_start⟩
  have z_Draft_game : FldOk K (clsA K "Draft") "game" := ⟨Z.cls_Draft, Z.f_Draft_game⟩
  have z_Draft__done_steps : FldOk K (clsA K "Draft") "_done_steps" := ⟨Z.cls_Draft, Z.f_Draft__done_steps⟩
  have z_Draft__back_steps : FldOk K (clsA K "Draft") "_back_steps" := ⟨Z.cls_Draft, Z.f_Draft__back_steps⟩
  have z_Draft__rows_so_far : FldOk K (clsA K "Draft") "_rows_so_far" := ⟨Z.cls_Draft, Z.f_Draft__rows_so_far⟩
  refine ok_of h0 sc_fresh_names (fun vs M Q E h => sp_fresh_names_len h) (fun f cdv A outer s H E hr => ⟨_, (psscons (pssetlcP 2  rfl sc_fresh_names.nd rfl (sw_true rfl rfl rfl (by decide +kernel)) (piseqK (K := K) (pixK (K := K) (pv 0) pinT)) (blkOk_by (own := [("row", 6)]) (N := ["game", "count", "declared", "found", "number", "name", "row"]) (sc := defScope s_fresh_names) (by decide +kernel)) (tgName (by decide)) (fun _ _ _ _ _ => (pg_name (i := 6) sc_fresh_names.nd rfl (by first | exact Or.inl rfl | exact Or.inr rfl))) (fun _ _ _ _ _ => (pixK (K := K) (pv 6) pinT)))
      (psscons (psset 3 sc_fresh_names.nd (plst panil))
      (psscons (psset 4 sc_fresh_names.nd pinT)
      (psscons (pswhile PassesOwn.never (ptcmp (opLt (by exact hr.units0)) (pcallB (cLenK (K := K)) (by rfl) T.b_len (by decide +kernel) (pacons (pv 3) panil)) (pv 1) (nomark _)) (psscons (psset 5 sc_fresh_names.nd (pop opAdd pstr (pcallTy cStr (by rfl) T.b_str (by decide +kernel) (pacons (pv 4) panil))))
      (psscons (psif (ptcmp (opNotIn (K := K)) (pv 5) (pv 2) rfl) (pssone (psexpr (pbmK (K := K) PySem.F.plainAttrs_list PySem.F.slot_list_append PySem.F.type_list_append mAppend (pv 3) (pacons (pv 5) panil)))) pssnil)
      (pssone (psaug 4 sc_fresh_names.nd iopAdd pinT)))))
      (pssone (psret (pcallTy (cTupleK (K := K)) (by rfl) T.b_tuple (by decide +kernel) (pacons (pv 3) panil)))))))), fun vs M Q Ep h => ?_⟩)
  obtain ⟨rs, t, n, rfl, hn, k⟩ := h
  walk_at "go"
  refine ⟨fun i => .str (rs.getD i r0).nm, by rw [List.length_map]; omega, fun _ _ => trivial, fun i x M2 Q2 hx sb k2 => ?_, fun Dl l hD hl => ?_⟩
  · obtain ⟨r, hr, rfl⟩ := row_at hx
    refine ⟨_, rfl, ?_⟩
    simp only [getD_at hr] at k2
    walk_at "on"
    exact k2 _ (.refl _)
  have hl : l = (namesOf rs).map PV.str := by
    rw [hl, List.length_map]
    have e : rs = mk rs.length fun i => rs.getD i r0 := mk_of rs r0
    conv => rhs; rw [e]
    show _ = (List.map Row.nm _).map PV.str
    rw [mk_map, mk_map]
  subst hl
  have nl : (namesOf rs).length = rs.length := List.length_map _
  generalize hnm : namesOf rs = names at k nl
  walk_at "on"
  intro p hp
  have hpD : Dl ≠ p := neM updM_same hp
  walk_at "on"
  refine ⟨fun w σ M' => ∃ (m : Nat) (o : Option PV), σ = [none, some (.int (n : Int)), some (.ref Dl), some (.ref p), some (.int (m : Int)), o, none] ∧ m ≤ n + names.length ∧ (n + names.length) - m = w ∧ (fl names m).length ≤ n ∧ M' = updM (updM M Dl (.lst (names.map PV.str))) p (.lst ((fl names m).map PV.str)), ⟨n + names.length, _, _, by walk_at "subs", .refl _, 0, _, rfl, by omega, rfl, Nat.zero_le _, rfl⟩, ?_⟩
  rintro w σ M' ⟨m, o, rfl, hm, hw, hf, rfl⟩
  have hp1 : updM (updM M Dl (.lst (names.map PV.str))) p (.lst ((fl names m).map PV.str)) p = some (.lst ((fl names m).map PV.str)) := updM_same
  have hd1 : updM (updM M Dl (.lst (names.map PV.str))) p (.lst ((fl names m).map PV.str)) Dl = some (.lst (names.map PV.str)) := by rw [updM_ne hpD]; exact updM_same
  walk_at "on"
  refine br_dec (fun hlt => ?_) (fun hge => ?_)
  · rw [List.length_map] at hlt
    have hmn : m < n + names.length := by
      by_cases e : m = n + names.length
      · have := fl_len (names := names) (n := n) (by omega)
        rw [← e] at this; omega
      · omega
    walk_at "on"
    refine ⟨by simp; exact Nat.lt_of_le_of_lt (Nat.log2_le_self m) (by omega), ?_⟩
    walk_at "on"
    refine ⟨app_len (n := 1) (m := 3) (by decide) (num_len m (by omega)) (by decide), ?_⟩
    walk_at "on"
    have e : ("m" : Str) ++ numS m = frS m := rfl
    have stp1 := fl_succ names m
    by_cases hin : frS m ∈ names
    · refine br_f (by rw [show (("m" : Str) ++ (toString (m : Int) : Str)) = frS m from rfl, decide_eq_true hin]; rfl) ?_
      rw [if_pos hin, List.append_nil] at stp1
      walk_at "on"
      exact ⟨n + names.length - (m + 1), by omega, _, _, by walk_at "subs", .refl _, m + 1, _, rfl, by omega, rfl, by rw [stp1]; omega, by rw [stp1]⟩
    · refine br_t (by rw [show (("m" : Str) ++ (toString (m : Int) : Str)) = frS m from rfl, decide_eq_false hin]; rfl) ?_
      rw [if_neg hin] at stp1
      walk_at "on"
      refine ⟨_, hp1, by rw [List.length_map, sizeLine_eq]; omega, ?_⟩
      walk_at "on"
      refine ⟨n + names.length - (m + 1), by omega, _, _, by walk_at "subs", .refl _, m + 1, _, rfl, by omega, rfl, by rw [stp1, List.length_append]; simp; omega, ?_⟩
      rw [stp1, updM_updM, List.map_append]; rfl
  · rw [List.length_map] at hge
    walk_at "on"
    refine ⟨M, Sub.trans (.new hD) (.new hp), ?_⟩
    rw [← freshT_of hm (by omega)]
    exact k

/-- numbers, texts, tuples of them, not too long -/
inductive PlD : Nat → PV → Prop
  | int {n} (i) : PlD (n + 1) (.int i)
  | str {n} (x) : PlD (n + 1) (.str x)
  | tup {n l} : l.length ≤ 1000000 → (∀ x ∈ l, PlD n x) → PlD (n + 1) (.tup l)
theorem PlD.dat : ∀ {n : Nat} {x : PV}, PlD n x → Dat n x
  | _, _, .int _ => .int _
  | _, _, .str _ => .str _
  | _, _, .tup _ h => .tup fun x hx => (h x hx).dat
theorem PlD.mono : ∀ {n m : Nat} {x : PV}, PlD n x → n ≤ m → PlD m x
  | _, 0, _, .int _, h => absurd h (by omega)
  | _, 0, _, .str _, h => absurd h (by omega)
  | _, 0, _, .tup _ _, h => absurd h (by omega)
  | _, m + 1, _, .int _, _ => .int _
  | _, m + 1, _, .str _, _ => .str _
  | _, m + 1, _, .tup hl h, q => .tup hl fun x hx => (h x hx).mono (by omega)
theorem PlD.ints {n : Nat} {ns : List Int} (h : ns.length ≤ 1000000) : PlD (n + 2) (.tup (ns.map PV.int)) := .tup (by rw [List.length_map]; exact h) fun x hx => by
  obtain ⟨z, _, rfl⟩ := List.mem_map.mp hx
  exact .int _
def sp__law_plain (K : Kf) (n : Nat) : PSpec := fun vs M Q _ => ∃ x, vs = [x] ∧ PlD n x ∧ Q (.bl true) M
theorem sp__law_plain_len {K : Kf} {n : Nat} {vs : List PV} {M : PHp} {Q : PVK} {E : PXK} (h : sp__law_plain K n vs M Q E) : vs.length = 1 := by
  obtain ⟨_, rfl, _⟩ := h; rfl
theorem sp__law_plain_zero {K : Kf} {vs : List PV} {M : PHp} {Q : PVK} {E : PXK} (h : sp__law_plain K 0 vs M Q E) : False := by
  obtain ⟨_, rfl, h, _⟩ := h; cases h

theorem ok__law_plain {P : Program} {w : World} {K : Kf} {mg : Str → Option Value} {base : Heap} (h0 : Here K mg "_law_plain" s__law_plain ["answer"]) (T : Blt mg) (Z : Zc K mg) (XC : Xc K mg) (Su : Sure P base)  : ∀ n : Nat, Callee P w K mg base (34 + n) "_law_plain" ["answer"] (sp__law_plain K n)
  | 0 => (Callee.never (k := 33) h0 sc__law_plain).imp fun _ _ _ _ h => (sp__law_plain_zero h).elim
  | n + 1 => by
    have C__law_plain := ok__law_plain (P := P) (w := w) (base := base) h0 T Z XC Su  n
    have z_Derivation_start : FldOk K (clsA K "Derivation") "start" := ⟨Z.cls_Derivation, Z.f_Derivation_start⟩
    have z_Derivation_end : FldOk K (clsA K "Derivation") "end" := ⟨Z.cls_Derivation, Z.f_Derivation_end⟩
    have z_Derivation_steps : FldOk K (clsA K "Derivation") "steps" := ⟨Z.cls_Derivation, Z.f_Derivation_steps⟩
    have z_Derivation_back : FldOk K (clsA K "Derivation") "back" := ⟨Z.cls_Derivation, Z.f_Derivation_back⟩
    have z_Derivation__stage_rows : FldOk K (clsA K "Derivation") "_stage_rows" := ⟨Z.cls_Derivation, Z.f_Derivation__stage_rows⟩
    have z_Draft_start : FldOk K (clsA K "Draft") "start" := ⟨Z.cls_Draft, Z.f_Draft_start⟩
    have z_Draft_game : FldOk K (clsA K "Draft") "game" := ⟨Z.cls_Draft, Z.f_Draft_game⟩
    have z_Draft__done_steps : FldOk K (clsA K "Draft") "_done_steps" := ⟨Z.cls_Draft, Z.f_Draft__done_steps⟩
    have z_Draft__back_steps : FldOk K (clsA K "Draft") "_back_steps" := ⟨Z.cls_Draft, Z.f_Draft__back_steps⟩
    have z_Draft__rows_so_far : FldOk K (clsA K "Draft") "_rows_so_far" := ⟨Z.cls_Draft, Z.f_Draft__rows_so_far⟩
    refine ok_of (k := 34 + n) h0 sc__law_plain (fun vs M Q E h => sp__law_plain_len h) (fun f cdv A outer s H E hr => ⟨_, (psscons (psif (ptval (pcallB (cIsiK (K := K)) (by rfl) T.b_isinstance (by decide +kernel) (pacons (pv 0) (pacons (pbltn (p := .ty "tuple") (v := .ty "tuple") (by rfl) T.b_tuple (by decide +kernel) rfl (fun _ => .ty _)) panil)))) (pssone (psret (pcmp (opEqK (K := K) (by exact hr.units)) (pcallB (cLenK (K := K)) (by rfl) T.b_len (by decide +kernel) (pacons (plcF  rfl sc__law_plain.nd (piseqK (K := K) (pv 0)) (blkOk_by (own := [("item", 1)]) (N := ["answer", "item"]) (sc := defScope s__law_plain) (by decide +kernel)) (tgName (by decide)) (fun _ _ _ _ _ => (pg_name (i := 1) sc__law_plain.nd rfl (by first | exact Or.inl rfl | exact Or.inr rfl))) (fun _ _ _ _ _ => (ptsone (ptnot (ptval (pcall C__law_plain (by exact hr.mono (by first | decide | omega)) (pacons (pv 1) panil)))))) (fun _ _ _ _ _ => (pv 1))) panil)) pinT (nomark _)))) pssnil)
      (pssone (psret (pand (pnot (pcallB (cIsiK (K := K)) (by rfl) T.b_isinstance (by decide +kernel) (pacons (pv 0) (pacons (pbltn (p := .ty "bool") (v := .ty "bool") (by rfl) T.b_bool (by decide +kernel) rfl (fun _ => .ty _)) panil)))) (pone (pcallB (cIsiTK (K := K)) (by rfl) T.b_isinstance (by decide +kernel) (pacons (pv 0) (pacons (ptup (pacons (pbltn (p := .ty "str") (v := .ty "str") (by rfl) T.b_str (by decide +kernel) rfl (fun _ => .ty _)) (pacons (pbltn (p := .ty "int") (v := .ty "int") (by rfl) T.b_int (by decide +kernel) rfl (fun _ => .ty _)) panil))) panil)))))))), fun vs M Q Ep h => ?_⟩)
    obtain ⟨x, rfl, hx, k⟩ := h
    walk_at "go"
    cases hx with
    | int i =>
      walk_at "on"
      refine ⟨"int", ["str", "int"], rfl, rfl, by decide, ?_⟩
      walk_at "on"
      exact ⟨_, .refl _, k⟩
    | str x =>
      walk_at "on"
      refine ⟨"str", ["str", "int"], rfl, rfl, by decide, ?_⟩
      walk_at "on"
      exact ⟨_, .refl _, k⟩
    | @tup _ l hl h =>
      walk_at "on"
      refine ⟨fun _ => false, fun _ => .non, by omega, fun _ _ => trivial, fun i x M2 Q3 hx sb k3 => ?_, fun i x M2 Q2 hx hb sb k2 => by (cases hb), fun Dl l' hD hl' => ?_⟩
      · refine ⟨_, rfl, ?_⟩
        walk_at "on"
        refine ⟨x, rfl, h x (List.mem_of_getElem? hx), ?_⟩
        walk_at "on"
        exact k3 _ (.refl _)
      · have : l' = [] := by rw [hl']; simp
        subst this
        walk_at "on"
        exact ⟨M, .new hD, k⟩
  
def sp_apply_step (K : Kf) : PSpec := fun vs M Q E => ∃ (rs : List Row) (t : Tr) (x y : Str) (r : Row), vs = [gameV rs t, .tup [.str "rename", .str x, .str y]] ∧ RwOk rs ∧ BT 13 t ∧ y.length ≤ 1000 ∧
  rs.find? (fun r => decide (r.nm = x)) = some r ∧ nameB y = true ∧ y ∉ namesOf rs ∧ ∀ qs, qs.Perm (offN rs x ++ [⟨y, r.ow, r.ws⟩]) → SortedN qs → Q (gameV qs (relT x y t)) M
theorem sp_apply_step_len {K : Kf} {vs : List PV} {M : PHp} {Q : PVK} {E : PXK} (h : sp_apply_step K vs M Q E) : vs.length = 2 := by
  obtain ⟨_, _, _, _, _, rfl, _⟩ := h; rfl

theorem ok_apply_step {P : Program} {w : World} {K : Kf} {mg : Str → Option Value} {base : Heap} (h0 : Here K mg "apply_step" s_apply_step ["game", "step"]) (T : Blt mg) (Z : Zc K mg) (XC : Xc K mg) (Su : Sure P base) (C_renamed : CalleeR (L2.CX P w) P w K mg base 48 "renamed" ["game", "name", "new"] (sp_renamed K)) : CalleeR (L2.CX P w) P w K mg base 49 "apply_step" ["game", "step"] (sp_apply_step K) := by
  have z_Derivation_start : FldOk K (clsA K "Derivation") "start" := ⟨Z.cls_Derivation, Z.f_Derivation_start⟩
  have z_Derivation_end : FldOk K (clsA K "Derivation") "end" := ⟨Z.cls_Derivation, Z.f_Derivation_end⟩
  have z_Derivation_steps : FldOk K (clsA K "Derivation") "steps" := ⟨Z.cls_Derivation, Z.f_Derivation_steps⟩
  have z_Derivation_back : FldOk K (clsA K "Derivation") "back" := ⟨Z.cls_Derivation, Z.f_Derivation_back⟩
  have z_Derivation__stage_rows : FldOk K (clsA K "Derivation") "_stage_rows" := ⟨Z.cls_Derivation, Z.f_Derivation__stage_rows⟩
  have z_Draft_start : FldOk K (clsA K "Draft") "start" := ⟨Z.cls_Draft, Z.f_Draft_start⟩
  have z_Draft_game : FldOk K (clsA K "Draft") "game" := ⟨Z.cls_Draft, Z.f_Draft_game⟩
  have z_Draft__done_steps : FldOk K (clsA K "Draft") "_done_steps" := ⟨Z.cls_Draft, Z.f_Draft__done_steps⟩
  have z_Draft__back_steps : FldOk K (clsA K "Draft") "_back_steps" := ⟨Z.cls_Draft, Z.f_Draft__back_steps⟩
  have z_Draft__rows_so_far : FldOk K (clsA K "Draft") "_rows_so_far" := ⟨Z.cls_Draft, Z.f_Draft__rows_so_far⟩
  refine okR_z h0 sc_apply_step (fun vs M Q E h => sp_apply_step_len h) (fun f cdv A outer s H E Ep hr air tk own => ⟨_, (pssone (psmatch (pv 1) (pmcase rfl (Nat.le_of_ble_eq_true rfl) (Caps.cons sc_apply_step.nd (i := 2) rfl (Or.inl rfl) (by first | exact Or.inl rfl | exact Or.inr rfl) Caps.nil) pssdead
      (pmcase rfl (Nat.le_of_ble_eq_true rfl) (Caps.cons sc_apply_step.nd (i := 2) rfl (Or.inl rfl) (by first | exact Or.inl rfl | exact Or.inr rfl) (Caps.cons sc_apply_step.nd (i := 3) rfl (Or.inl rfl) (by first | exact Or.inl rfl | exact Or.inr rfl) Caps.nil)) pssdead
      (pmcase rfl (Nat.le_of_ble_eq_true rfl) (Caps.cons sc_apply_step.nd (i := 2) rfl (Or.inl rfl) (by first | exact Or.inl rfl | exact Or.inr rfl) Caps.nil) pssdead
      (pmcase rfl (Nat.le_of_ble_eq_true rfl) (Caps.cons sc_apply_step.nd (i := 3) rfl (Or.inl rfl) (by first | exact Or.inl rfl | exact Or.inr rfl) (Caps.cons sc_apply_step.nd (i := 4) rfl (Or.inl rfl) (by first | exact Or.inl rfl | exact Or.inr rfl) (Caps.cons sc_apply_step.nd (i := 5) rfl (Or.inl rfl) (by first | exact Or.inl rfl | exact Or.inr rfl) Caps.nil))) pssdead
      (pmcase rfl (Nat.le_of_ble_eq_true rfl) (Caps.cons sc_apply_step.nd (i := 3) rfl (Or.inl rfl) (by first | exact Or.inl rfl | exact Or.inr rfl) Caps.nil) pssdead
      (pmcase rfl (Nat.le_of_ble_eq_true rfl) (Caps.cons sc_apply_step.nd (i := 3) rfl (Or.inl rfl) (by first | exact Or.inl rfl | exact Or.inr rfl) (Caps.cons sc_apply_step.nd (i := 6) rfl (Or.inl rfl) (by first | exact Or.inl rfl | exact Or.inr rfl) Caps.nil)) (pssone (psret (pcallR C_renamed air (by exact hr.mono (by first | decide | omega)) (pacons (pv 0) (pacons (pv 3) (pacons (pv 6) panil))))))
      (pmcase rfl (Nat.le_of_ble_eq_true rfl) (Caps.cons sc_apply_step.nd (i := 3) rfl (Or.inl rfl) (by first | exact Or.inl rfl | exact Or.inr rfl) (Caps.cons sc_apply_step.nd (i := 7) rfl (Or.inl rfl) (by first | exact Or.inl rfl | exact Or.inr rfl) Caps.nil)) pssdead
      (pmcase rfl (Nat.le_of_ble_eq_true rfl) (Caps.cons sc_apply_step.nd (i := 3) rfl (Or.inl rfl) (by first | exact Or.inl rfl | exact Or.inr rfl) (Caps.cons sc_apply_step.nd (i := 8) rfl (Or.inl rfl) (by first | exact Or.inl rfl | exact Or.inr rfl) (Caps.cons sc_apply_step.nd (i := 9) rfl (Or.inl rfl) (by first | exact Or.inl rfl | exact Or.inr rfl) Caps.nil))) pssdead
      (pmcase rfl (Nat.le_of_ble_eq_true rfl) (Caps.cons sc_apply_step.nd (i := 3) rfl (Or.inl rfl) (by first | exact Or.inl rfl | exact Or.inr rfl) (Caps.cons sc_apply_step.nd (i := 8) rfl (Or.inl rfl) (by first | exact Or.inl rfl | exact Or.inr rfl) (Caps.cons sc_apply_step.nd (i := 10) rfl (Or.inl rfl) (by first | exact Or.inl rfl | exact Or.inr rfl) (Caps.cons sc_apply_step.nd (i := 9) rfl (Or.inl rfl) (by first | exact Or.inl rfl | exact Or.inr rfl) Caps.nil)))) pssdead
      (pmcase rfl (Nat.le_of_ble_eq_true rfl) (Caps.cons sc_apply_step.nd (i := 11) rfl (Or.inl rfl) (by first | exact Or.inl rfl | exact Or.inr rfl) (Caps.cons sc_apply_step.nd (i := 3) rfl (Or.inl rfl) (by first | exact Or.inl rfl | exact Or.inr rfl) (Caps.cons sc_apply_step.nd (i := 12) rfl (Or.inl rfl) (by first | exact Or.inl rfl | exact Or.inr rfl) Caps.nil))) pssdead
      (pmcase rfl (Nat.le_of_ble_eq_true rfl) (Caps.cons sc_apply_step.nd (i := 11) rfl (Or.inl rfl) (by first | exact Or.inl rfl | exact Or.inr rfl) (Caps.cons sc_apply_step.nd (i := 12) rfl (Or.inl rfl) (by first | exact Or.inl rfl | exact Or.inr rfl) (Caps.cons sc_apply_step.nd (i := 3) rfl (Or.inl rfl) (by first | exact Or.inl rfl | exact Or.inr rfl) Caps.nil))) pssdead
      (pmwild pssdead)))))))))))))), fun vs M Q h => ?_⟩)
  obtain ⟨rs, t, x, y, r, rfl, ok, hb, hy, hr, hn, hni, k⟩ := h
  walk_at "go"
  refine ⟨_, rfl, fun h => absurd h (by simp), fun _ => ?_⟩
  refine case_no (by decide) ?_
  refine case_len (by simp) ?_
  refine case_len (by simp) ?_
  refine case_len (by simp) ?_
  refine case_yes rfl ?_
  simp only [setAllP, Nat.reduceEqDiff, ↓reduceIte]
  walk_at "on"
  refine ⟨rs, t, x, y, rfl, ok, hb, hy, fun r2 qs hr2 _ _ pm sn => ?_, fun n => absurd ⟨find_mem hr, hn, hni⟩ n⟩
  rw [hr] at hr2
  cases hr2
  exact ⟨_, .refl _, k qs pm sn⟩

def sp_turned_step (K : Kf) : PSpec := fun vs M Q _ => ∃ (g : PV) (x y : Str), vs = [g, .tup [.str "rename", .str x, .str y]] ∧ Q (.tup [.str "rename", .str y, .str x]) M
theorem sp_turned_step_len {K : Kf} {vs : List PV} {M : PHp} {Q : PVK} {E : PXK} (h : sp_turned_step K vs M Q E) : vs.length = 2 := by
  obtain ⟨_, _, _, rfl, _⟩ := h; rfl

theorem ok_turned_step {P : Program} {w : World} {K : Kf} {mg : Str → Option Value} {base : Heap} (h0 : Here K mg "turned_step" s_turned_step ["game", "step"]) (T : Blt mg) (Z : Zc K mg) (XC : Xc K mg) (Su : Sure P base)  : Callee P w K mg base 34 "turned_step" ["game", "step"] (sp_turned_step K) := by
  have z_Derivation_start : FldOk K (clsA K "Derivation") "start" := ⟨Z.cls_Derivation, Z.f_Derivation_start⟩
  have z_Derivation_end : FldOk K (clsA K "Derivation") "end" := ⟨Z.cls_Derivation, Z.f_Derivation_end⟩
  have z_Derivation_steps : FldOk K (clsA K "Derivation") "steps" := ⟨Z.cls_Derivation, Z.f_Derivation_steps⟩
  have z_Derivation_back : FldOk K (clsA K "Derivation") "back" := ⟨Z.cls_Derivation, Z.f_Derivation_back⟩
  have z_Derivation__stage_rows : FldOk K (clsA K "Derivation") "_stage_rows" := ⟨Z.cls_Derivation, Z.f_Derivation__stage_rows⟩
  have z_Draft_start : FldOk K (clsA K "Draft") "start" := ⟨Z.cls_Draft, Z.f_Draft_start⟩
  have z_Draft_game : FldOk K (clsA K "Draft") "game" := ⟨Z.cls_Draft, Z.f_Draft_game⟩
  have z_Draft__done_steps : FldOk K (clsA K "Draft") "_done_steps" := ⟨Z.cls_Draft, Z.f_Draft__done_steps⟩
  have z_Draft__back_steps : FldOk K (clsA K "Draft") "_back_steps" := ⟨Z.cls_Draft, Z.f_Draft__back_steps⟩
  have z_Draft__rows_so_far : FldOk K (clsA K "Draft") "_rows_so_far" := ⟨Z.cls_Draft, Z.f_Draft__rows_so_far⟩
  refine ok_of h0 sc_turned_step (fun vs M Q E h => sp_turned_step_len h) (fun f cdv A outer s H E hr => ⟨_, (pssone (psmatch (pv 1) (pmcase rfl (Nat.le_of_ble_eq_true rfl) (Caps.cons sc_turned_step.nd (i := 2) rfl (Or.inl rfl) (by first | exact Or.inl rfl | exact Or.inr rfl) (Caps.wild Caps.nil)) pssdead
      (pmcase rfl (Nat.le_of_ble_eq_true rfl) (Caps.cons sc_turned_step.nd (i := 2) rfl (Or.inl rfl) (by first | exact Or.inl rfl | exact Or.inr rfl) Caps.nil) pssdead
      (pmcase rfl (Nat.le_of_ble_eq_true rfl) (Caps.cons sc_turned_step.nd (i := 3) rfl (Or.inl rfl) (by first | exact Or.inl rfl | exact Or.inr rfl) (Caps.wild (Caps.wild Caps.nil))) pssdead
      (pmcase rfl (Nat.le_of_ble_eq_true rfl) (Caps.cons sc_turned_step.nd (i := 3) rfl (Or.inl rfl) (by first | exact Or.inl rfl | exact Or.inr rfl) Caps.nil) pssdead
      (pmcase rfl (Nat.le_of_ble_eq_true rfl) (Caps.cons sc_turned_step.nd (i := 3) rfl (Or.inl rfl) (by first | exact Or.inl rfl | exact Or.inr rfl) (Caps.cons sc_turned_step.nd (i := 4) rfl (Or.inl rfl) (by first | exact Or.inl rfl | exact Or.inr rfl) Caps.nil)) (pssone (psret (ptup (pacons pstr (pacons (pv 4) (pacons (pv 3) panil))))))
      (pmcase rfl (Nat.le_of_ble_eq_true rfl) (Caps.cons sc_turned_step.nd (i := 3) rfl (Or.inl rfl) (by first | exact Or.inl rfl | exact Or.inr rfl) (Caps.cons sc_turned_step.nd (i := 5) rfl (Or.inl rfl) (by first | exact Or.inl rfl | exact Or.inr rfl) Caps.nil)) pssdead
      (pmcase rfl (Nat.le_of_ble_eq_true rfl) (Caps.cons sc_turned_step.nd (i := 3) rfl (Or.inl rfl) (by first | exact Or.inl rfl | exact Or.inr rfl) (Caps.cons sc_turned_step.nd (i := 6) rfl (Or.inl rfl) (by first | exact Or.inl rfl | exact Or.inr rfl) (Caps.cons sc_turned_step.nd (i := 7) rfl (Or.inl rfl) (by first | exact Or.inl rfl | exact Or.inr rfl) Caps.nil))) pssdead
      (pmcase rfl (Nat.le_of_ble_eq_true rfl) (Caps.cons sc_turned_step.nd (i := 3) rfl (Or.inl rfl) (by first | exact Or.inl rfl | exact Or.inr rfl) (Caps.cons sc_turned_step.nd (i := 6) rfl (Or.inl rfl) (by first | exact Or.inl rfl | exact Or.inr rfl) (Caps.wild (Caps.cons sc_turned_step.nd (i := 7) rfl (Or.inl rfl) (by first | exact Or.inl rfl | exact Or.inr rfl) Caps.nil)))) pssdead
      (pmcase rfl (Nat.le_of_ble_eq_true rfl) (Caps.cons sc_turned_step.nd (i := 8) rfl (Or.inl rfl) (by first | exact Or.inl rfl | exact Or.inr rfl) (Caps.cons sc_turned_step.nd (i := 3) rfl (Or.inl rfl) (by first | exact Or.inl rfl | exact Or.inr rfl) (Caps.cons sc_turned_step.nd (i := 9) rfl (Or.inl rfl) (by first | exact Or.inl rfl | exact Or.inr rfl) Caps.nil))) pssdead
      (pmcase rfl (Nat.le_of_ble_eq_true rfl) (Caps.cons sc_turned_step.nd (i := 8) rfl (Or.inl rfl) (by first | exact Or.inl rfl | exact Or.inr rfl) (Caps.cons sc_turned_step.nd (i := 9) rfl (Or.inl rfl) (by first | exact Or.inl rfl | exact Or.inr rfl) (Caps.cons sc_turned_step.nd (i := 3) rfl (Or.inl rfl) (by first | exact Or.inl rfl | exact Or.inr rfl) Caps.nil))) pssdead
      (pmwild pssdead))))))))))))), fun vs M Q Ep h => ?_⟩)
  obtain ⟨g, x, y, rfl, k⟩ := h
  walk_at "go"
  refine case_no (by decide) ?_
  refine case_len (by simp) ?_
  refine case_len (by simp) ?_
  refine case_len (by simp) ?_
  refine case_yes rfl ?_
  simp only [setAllP, Nat.reduceEqDiff, ↓reduceIte]
  walk_at "on"
  exact ⟨_, .refl _, k⟩

theorem Hd.comp {S : List Addr} {M0 M M' : PHp} {L N : List (Addr × MO)} {p : Addr} {o o' : MO} (h : Hd S M0 M ((p, o) :: L)) (g : Hd [p] M M' ((p, o') :: N)) : Hd S M0 M' (((p, o') :: N) ++ L) := by
  have nd := h.nd
  rw [List.map_cons, List.nodup_cons] at nd
  have nd2 := g.nd
  rw [List.map_cons, List.nodup_cons] at nd2
  have old : ∀ b u, b ≠ p → M b = some u → M' b = some u := fun b u n e => g.kp b u (by simpa using n) e
  have hp := h.fr (p, o) List.mem_cons_self
  have np : ∀ b u, b ∉ S → M0 b = some u → b ≠ p := fun b u nb hb e => by
    subst e
    rcases hp with q | q
    · rw [q] at hb; cases hb
    · exact nb q
  have nN : ∀ y ∈ N, M y.1 = none := fun y hy => by
    rcases g.fr y (List.mem_cons_of_mem _ hy) with q | q
    · exact q
    · exact absurd (List.mem_map_of_mem (f := Prod.fst) hy) (by rw [List.mem_singleton.mp q]; exact nd2.1)
  have hL : ∀ x ∈ L, M x.1 = some x.2 ∧ x.1 ≠ p := fun x hx => ⟨h.ats x (List.mem_cons_of_mem _ hx), fun e => nd.1 (by have q := List.mem_map_of_mem (f := Prod.fst) hx; rw [e] at q; exact q)⟩
  refine ⟨fun b u nb hb => old b u (np b u nb hb) (h.kp b u nb hb), fun x hx => ?_, fun x hx => ?_, ?_⟩
  · rcases List.mem_append.mp hx with hx | hx
    · exact g.ats x hx
    · exact old _ _ (hL x hx).2 (hL x hx).1
  · rcases List.mem_append.mp hx with hx | hx
    · rcases List.mem_cons.mp hx with rfl | hx
      · exact hp
      · cases e : M0 x.1 with
        | none => exact .inl rfl
        | some u =>
          by_cases q : x.1 ∈ S
          · exact .inr q
          · have := h.kp _ _ q e
            rw [nN x hx] at this; cases this
    · exact h.fr x (List.mem_cons_of_mem _ hx)
  · rw [List.map_append, List.nodup_append]
    refine ⟨g.nd, nd.2, fun a ha b hb e => ?_⟩
    subst e
    obtain ⟨x, hx, rfl⟩ := List.mem_map.mp hb
    rw [List.map_cons] at ha
    rcases List.mem_cons.mp ha with q | q
    · exact (hL x hx).2 q
    · obtain ⟨y, hy, e⟩ := List.mem_map.mp q
      have := nN y hy
      rw [e, (hL x hx).1] at this; cases this
theorem Hd.callS {S : List Addr} {M0 M M' : PHp} {G L G' : List (Addr × MO)} (h : Hd S M0 M (G ++ L)) (g : Hd (G.map Prod.fst) M M' G') (e : G'.map Prod.fst = G.map Prod.fst) : Hd S M0 M' (G' ++ L) := by
  have nd := h.nd
  rw [List.map_append] at nd
  have n1 := List.nodup_append.mp nd
  refine ⟨fun b u nb hb => g.kp b u (fun hm => ?_) (h.kp b u nb hb), fun x hx => ?_, fun x hx => ?_, by rw [List.map_append, e]; exact nd⟩
  · obtain ⟨x, hx, rfl⟩ := List.mem_map.mp hm
    rcases h.fr x (List.mem_append_left _ hx) with q | q
    · rw [q] at hb; cases hb
    · exact nb q
  · rcases List.mem_append.mp hx with hx | hx
    · exact g.ats x hx
    · exact g.kp _ _ (fun hm => n1.2.2 _ hm _ (List.mem_map_of_mem hx) rfl) (h.ats x (List.mem_append_right _ hx))
  · rcases List.mem_append.mp hx with hx | hx
    · have := List.mem_map_of_mem (f := Prod.fst) hx
      rw [e] at this
      obtain ⟨y, hy, q⟩ := List.mem_map.mp this
      rw [← q]
      exact h.fr y (List.mem_append_left _ hy)
    · exact h.fr x (List.mem_append_right _ hx)
abbrev drF (g0 g : PV) (d b r : Addr) : List (Str × PV) := [("start", g0), ("game", g), ("_done_steps", .ref d), ("_back_steps", .ref b), ("_rows_so_far", .ref r)]
abbrev drO (K : Kf) (px : Addr) (g0 g : PV) (d b r : Addr) : MO := .ins (clsA K "Draft") px (drF g0 g d b r)
abbrev drL (K : Kf) (p px : Addr) (g0 g : PV) (d b r : Addr) (D B R : List PV) : List (Addr × MO) := [(p, drO K px g0 g d b r), (r, .lst R), (b, .lst B), (d, .lst D)]
def sp_Draft___init__ (K : Kf) : PSpec := fun vs M Q _ => ∃ (p px : Addr) (rs t : PV), vs = [.ref p, .tup [rs, t]] ∧ M p = some (.ins (clsA K "Draft") px []) ∧
  ∀ d b r M', Hd [p] M M' (drL K p px (.tup [rs, t]) (.tup [rs, t]) d b r [] [] [rs]) → Q .non M'
theorem sp_Draft___init___len {K : Kf} {vs : List PV} {M : PHp} {Q : PVK} {E : PXK} (h : sp_Draft___init__ K vs M Q E) : vs.length = 2 := by
  obtain ⟨_, _, _, _, rfl, _⟩ := h; rfl

theorem ok_Draft___init__ {P : Program} {w : World} {K : Kf} {mg : Str → Option Value} {base : Heap} {f : Addr} {fd : FuncData} (F : Fun K "__init__" "Draft.__init__" s_Draft___init__ f fd) (T : Blt mg) (Z : Zc K mg) (XC : Xc K mg) (Su : Sure P base)  : FnOk P w K mg base CX0 34 f fd ["self", "game"] (concF K (sp_Draft___init__ K)) := by
  have z_Derivation_start : FldOk K (clsA K "Derivation") "start" := ⟨Z.cls_Derivation, Z.f_Derivation_start⟩
  have z_Derivation_end : FldOk K (clsA K "Derivation") "end" := ⟨Z.cls_Derivation, Z.f_Derivation_end⟩
  have z_Derivation_steps : FldOk K (clsA K "Derivation") "steps" := ⟨Z.cls_Derivation, Z.f_Derivation_steps⟩
  have z_Derivation_back : FldOk K (clsA K "Derivation") "back" := ⟨Z.cls_Derivation, Z.f_Derivation_back⟩
  have z_Derivation__stage_rows : FldOk K (clsA K "Derivation") "_stage_rows" := ⟨Z.cls_Derivation, Z.f_Derivation__stage_rows⟩
  have z_Draft_start : FldOk K (clsA K "Draft") "start" := ⟨Z.cls_Draft, Z.f_Draft_start⟩
  have z_Draft_game : FldOk K (clsA K "Draft") "game" := ⟨Z.cls_Draft, Z.f_Draft_game⟩
  have z_Draft__done_steps : FldOk K (clsA K "Draft") "_done_steps" := ⟨Z.cls_Draft, Z.f_Draft__done_steps⟩
  have z_Draft__back_steps : FldOk K (clsA K "Draft") "_back_steps" := ⟨Z.cls_Draft, Z.f_Draft__back_steps⟩
  have z_Draft__rows_so_far : FldOk K (clsA K "Draft") "_rows_so_far" := ⟨Z.cls_Draft, Z.f_Draft__rows_so_far⟩
  refine meth_of F sc_Draft___init__ (fun vs M Q E h => sp_Draft___init___len h) (fun f cdv A outer s H E hr => ⟨_, (psscons (psfld (K := K) (pv 0) (pv 1))
      (psscons (psfld (K := K) (pv 0) (pv 1))
      (psscons (psfld (K := K) (pv 0) (plst panil))
      (psscons (psfld (K := K) (pv 0) (plst panil))
      (pssone (psfld (K := K) (pv 0) (plst (pacons (pixK (K := K) (pv 1) pinT) panil)))))))), fun vs M Q Ep h => ?_⟩)
  obtain ⟨p, px, rs, t, rfl, hp, k⟩ := h
  have hd : Hd [p] M M [(p, .ins (clsA K "Draft") px [])] := ⟨fun _ _ _ h => h, by simp [hp], by simp, by simp⟩
  walk_at "go"
  replace hd := hd.up0 (o' := .ins (clsA K "Draft") px [("start", .tup [rs, t])])
  replace hd := hd.up0 (o' := .ins (clsA K "Draft") px [("start", .tup [rs, t]), ("game", .tup [rs, t])])
  refine ald hd fun d hd0 hd => ?_
  replace hd := hd (.lst [])
  have hp1 := hd.get 1 rfl
  walk_at "on"
  replace hd := hd.up1 (o' := .ins (clsA K "Draft") px [("start", .tup [rs, t]), ("game", .tup [rs, t]), ("_done_steps", .ref d)])
  refine ald hd fun b hb0 hd => ?_
  replace hd := hd (.lst [])
  have hp2 := hd.get 2 rfl
  walk_at "on"
  replace hd := hd.up2 (o' := .ins (clsA K "Draft") px [("start", .tup [rs, t]), ("game", .tup [rs, t]), ("_done_steps", .ref d), ("_back_steps", .ref b)])
  refine ald hd fun r hr0 hd => ?_
  replace hd := hd (.lst [rs])
  have hp3 := hd.get 3 rfl
  walk_at "on"
  replace hd := hd.up3 (o' := drO K px (.tup [rs, t]) (.tup [rs, t]) d b r)
  exact ⟨_, .refl _, k d b r _ (hd.sel [3, 0, 1, 2] (by decide) rfl)⟩

def sp_Draft_do (K : Kf) : PSpec := fun vs M Q _ => ∃ (p px d b r : Addr) (g0 : PV) (D B R : List PV) (rs : List Row) (t : Tr) (x y : Str) (w : Row), vs = [.ref p, .tup [.str "rename", .str x, .str y]] ∧ Hd [p, r, b, d] M M (drL K p px g0 (gameV rs t) d b r D B R) ∧ D.length ≤ 1000 ∧ B.length ≤ 1000 ∧ R.length ≤ 1000 ∧ RwOk rs ∧ BT 13 t ∧ y.length ≤ 1000 ∧
  rs.find? (fun r => decide (r.nm = x)) = some w ∧ nameB y = true ∧ y ∉ namesOf rs ∧ ∀ qs M', qs.Perm (offN rs x ++ [⟨y, w.ow, w.ws⟩]) → SortedN qs → Hd [p, r, b, d] M M' (drL K p px g0 (gameV qs (relT x y t)) d b r (D ++ [.tup [.str "rename", .str x, .str y]]) (B ++ [.tup [.str "rename", .str y, .str x]]) (R ++ [rowsV qs])) → Q .non M'
theorem sp_Draft_do_len {K : Kf} {vs : List PV} {M : PHp} {Q : PVK} {E : PXK} (h : sp_Draft_do K vs M Q E) : vs.length = 2 := by
  obtain ⟨_, _, _, _, _, _, _, _, _, _, _, _, _, _, rfl, _⟩ := h; rfl

theorem ok_Draft_do {P : Program} {w : World} {K : Kf} {mg : Str → Option Value} {base : Heap} {f : Addr} {fd : FuncData} (F : Fun K "do" "Draft.do" s_Draft_do f fd) (T : Blt mg) (Z : Zc K mg) (XC : Xc K mg) (Su : Sure P base) (C_apply_step : CalleeR (L2.CX P w) P w K mg base 49 "apply_step" ["game", "step"] (sp_apply_step K)) (C_turned_step : Callee P w K mg base 34 "turned_step" ["game", "step"] (sp_turned_step K)) : FnOk P w K mg base CX0 50 f fd ["self", "step"] (concF K (sp_Draft_do K)) := by
  have z_Derivation_start : FldOk K (clsA K "Derivation") "start" := ⟨Z.cls_Derivation, Z.f_Derivation_start⟩
  have z_Derivation_end : FldOk K (clsA K "Derivation") "end" := ⟨Z.cls_Derivation, Z.f_Derivation_end⟩
  have z_Derivation_steps : FldOk K (clsA K "Derivation") "steps" := ⟨Z.cls_Derivation, Z.f_Derivation_steps⟩
  have z_Derivation_back : FldOk K (clsA K "Derivation") "back" := ⟨Z.cls_Derivation, Z.f_Derivation_back⟩
  have z_Derivation__stage_rows : FldOk K (clsA K "Derivation") "_stage_rows" := ⟨Z.cls_Derivation, Z.f_Derivation__stage_rows⟩
  have z_Draft_start : FldOk K (clsA K "Draft") "start" := ⟨Z.cls_Draft, Z.f_Draft_start⟩
  have z_Draft_game : FldOk K (clsA K "Draft") "game" := ⟨Z.cls_Draft, Z.f_Draft_game⟩
  have z_Draft__done_steps : FldOk K (clsA K "Draft") "_done_steps" := ⟨Z.cls_Draft, Z.f_Draft__done_steps⟩
  have z_Draft__back_steps : FldOk K (clsA K "Draft") "_back_steps" := ⟨Z.cls_Draft, Z.f_Draft__back_steps⟩
  have z_Draft__rows_so_far : FldOk K (clsA K "Draft") "_rows_so_far" := ⟨Z.cls_Draft, Z.f_Draft__rows_so_far⟩
  refine meth_of F sc_Draft_do (fun vs M Q E h => sp_Draft_do_len h) (fun f cdv A outer s H E hr => ⟨_, (psscons (psset 2 sc_Draft_do.nd (pcallR0 C_apply_step rfl (by exact hr.mono (by first | decide | omega)) (pacons (pfld (K := K) (pv 0)) (pacons (pv 1) panil))))
      (psscons (psexpr (pbmK (K := K) PySem.F.plainAttrs_list PySem.F.slot_list_append PySem.F.type_list_append mAppend (pfld (K := K) (pv 0)) (pacons (pcall C_turned_step (by exact hr.mono (by first | decide | omega)) (pacons (pfld (K := K) (pv 0)) (pacons (pv 1) panil))) panil)))
      (psscons (psexpr (pbmK (K := K) PySem.F.plainAttrs_list PySem.F.slot_list_append PySem.F.type_list_append mAppend (pfld (K := K) (pv 0)) (pacons (pv 1) panil)))
      (psscons (psexpr (pbmK (K := K) PySem.F.plainAttrs_list PySem.F.slot_list_append PySem.F.type_list_append mAppend (pfld (K := K) (pv 0)) (pacons (pixK (K := K) (pv 2) pinT) panil)))
      (pssone (psfld (K := K) (pv 0) (pv 2))))))), fun vs M Q Ep h => ?_⟩)
  obtain ⟨p, px, d, b, r, g0, D, B, R, rs, t, x, y, w, rfl, hd, hD, hB, hR, ok, hb, hy, hw, hn, hni, k⟩ := h
  have hp := hd.get 0 rfl
  walk_at "go"
  refine ⟨rs, t, x, y, w, rfl, ok, hb, hy, hw, hn, hni, fun qs pm sn => ?_⟩
  have hbk := hd.get 2 rfl
  walk_at "on"
  refine ⟨_, x, y, rfl, ?_⟩
  walk_at "on"
  refine ⟨_, hbk, by rw [sizeLine_eq]; omega, ?_⟩
  replace hd := hd.up2 (o' := .lst (B ++ [.tup [.str "rename", .str y, .str x]]))
  have hp := hd.get 0 rfl
  have hdd := hd.get 3 rfl
  walk_at "on"
  refine ⟨_, hdd, by rw [sizeLine_eq]; omega, ?_⟩
  replace hd := hd.up3 (o' := .lst (D ++ [.tup [.str "rename", .str x, .str y]]))
  have hp := hd.get 0 rfl
  have hrr := hd.get 1 rfl
  walk_at "on"
  refine ⟨_, hrr, by rw [sizeLine_eq]; omega, ?_⟩
  replace hd := hd.up1 (o' := .lst (R ++ [rowsV qs]))
  have hp := hd.get 0 rfl
  walk_at "on"
  replace hd := hd.up0 (o' := drO K px g0 (gameV qs (relT x y t)) d b r)
  exact ⟨_, .refl _, k qs _ pm sn hd⟩

abbrev dvF (s e st bk sr : PV) : List (Str × PV) := [("start", s), ("end", e), ("steps", st), ("back", bk), ("_stage_rows", sr)]
def sp_Derivation___init__ (K : Kf) : PSpec := fun vs M Q _ => ∃ (p px : Addr) (s e st bk sr : PV), vs = [.ref p, s, e, st, bk, sr] ∧ M p = some (.ins (clsA K "Derivation") px []) ∧
  ∀ M', M' p = some (.ins (clsA K "Derivation") px (dvF s e st bk sr)) → Keep p M M' → Q .non M'
theorem sp_Derivation___init___len {K : Kf} {vs : List PV} {M : PHp} {Q : PVK} {E : PXK} (h : sp_Derivation___init__ K vs M Q E) : vs.length = 6 := by
  obtain ⟨_, _, _, _, _, _, _, rfl, _⟩ := h; rfl

theorem ok_Derivation___init__ {P : Program} {w : World} {K : Kf} {mg : Str → Option Value} {base : Heap} {f : Addr} {fd : FuncData} (F : Fun K "__init__" "Derivation.__init__" s_Derivation___init__ f fd) (T : Blt mg) (Z : Zc K mg) (XC : Xc K mg) (Su : Sure P base)  : FnOk P w K mg base CX0 34 f fd ["self", "start", "end", "steps", "back", "stage_rows"] (concF K (sp_Derivation___init__ K)) := by
  have z_Derivation_start : FldOk K (clsA K "Derivation") "start" := ⟨Z.cls_Derivation, Z.f_Derivation_start⟩
  have z_Derivation_end : FldOk K (clsA K "Derivation") "end" := ⟨Z.cls_Derivation, Z.f_Derivation_end⟩
  have z_Derivation_steps : FldOk K (clsA K "Derivation") "steps" := ⟨Z.cls_Derivation, Z.f_Derivation_steps⟩
  have z_Derivation_back : FldOk K (clsA K "Derivation") "back" := ⟨Z.cls_Derivation, Z.f_Derivation_back⟩
  have z_Derivation__stage_rows : FldOk K (clsA K "Derivation") "_stage_rows" := ⟨Z.cls_Derivation, Z.f_Derivation__stage_rows⟩
  have z_Draft_start : FldOk K (clsA K "Draft") "start" := ⟨Z.cls_Draft, Z.f_Draft_start⟩
  have z_Draft_game : FldOk K (clsA K "Draft") "game" := ⟨Z.cls_Draft, Z.f_Draft_game⟩
  have z_Draft__done_steps : FldOk K (clsA K "Draft") "_done_steps" := ⟨Z.cls_Draft, Z.f_Draft__done_steps⟩
  have z_Draft__back_steps : FldOk K (clsA K "Draft") "_back_steps" := ⟨Z.cls_Draft, Z.f_Draft__back_steps⟩
  have z_Draft__rows_so_far : FldOk K (clsA K "Draft") "_rows_so_far" := ⟨Z.cls_Draft, Z.f_Draft__rows_so_far⟩
  refine meth_of F sc_Derivation___init__ (fun vs M Q E h => sp_Derivation___init___len h) (fun f cdv A outer s H E hr => ⟨_, (psscons (psfld (K := K) (pv 0) (pv 1))
      (psscons (psfld (K := K) (pv 0) (pv 2))
      (psscons (psfld (K := K) (pv 0) (pv 3))
      (psscons (psfld (K := K) (pv 0) (pv 4))
      (pssone (psfld (K := K) (pv 0) (pv 5))))))), fun vs M Q Ep h => ?_⟩)
  obtain ⟨p, px, s, e, st, bk, sr, rfl, hp, k⟩ := h
  walk_at "go"
  refine ⟨_, .refl _, k _ updM_same fun b u n e => ?_⟩
  repeat rw [updM_ne n]
  exact e

def sp_Draft_done (K : Kf) : PSpec := fun vs M Q _ => ∃ (p px d b r : Addr) (g0 g : PV) (D B R : List PV), vs = [.ref p] ∧ Hd [p, r, b, d] M M (drL K p px g0 g d b r D B R) ∧ D.length ≤ 1000 ∧ B.length ≤ 1000 ∧ R.length ≤ 1000 ∧
  ∀ q qx bk sr M', M q = none → M' q = some (.ins (clsA K "Derivation") qx (dvF g0 g (.tup D) bk sr)) → Sub M M' → Q (.ref q) M'
theorem sp_Draft_done_len {K : Kf} {vs : List PV} {M : PHp} {Q : PVK} {E : PXK} (h : sp_Draft_done K vs M Q E) : vs.length = 1 := by
  obtain ⟨_, _, _, _, _, _, _, _, _, _, rfl, _⟩ := h; rfl

theorem ok_Draft_done {P : Program} {w : World} {K : Kf} {mg : Str → Option Value} {base : Heap} {f : Addr} {fd : FuncData} (F : Fun K "done" "Draft.done" s_Draft_done f fd) (T : Blt mg) (Z : Zc K mg) (XC : Xc K mg) (Su : Sure P base) (C_Derivation___init__ : CalleeK P w K mg base 34 "Derivation" ["self", "start", "end", "steps", "back", "stage_rows"] (sp_Derivation___init__ K)) : FnOk P w K mg base CX0 36 f fd ["self"] (concF K (sp_Draft_done K)) := by
  have z_Derivation_start : FldOk K (clsA K "Derivation") "start" := ⟨Z.cls_Derivation, Z.f_Derivation_start⟩
  have z_Derivation_end : FldOk K (clsA K "Derivation") "end" := ⟨Z.cls_Derivation, Z.f_Derivation_end⟩
  have z_Derivation_steps : FldOk K (clsA K "Derivation") "steps" := ⟨Z.cls_Derivation, Z.f_Derivation_steps⟩
  have z_Derivation_back : FldOk K (clsA K "Derivation") "back" := ⟨Z.cls_Derivation, Z.f_Derivation_back⟩
  have z_Derivation__stage_rows : FldOk K (clsA K "Derivation") "_stage_rows" := ⟨Z.cls_Derivation, Z.f_Derivation__stage_rows⟩
  have z_Draft_start : FldOk K (clsA K "Draft") "start" := ⟨Z.cls_Draft, Z.f_Draft_start⟩
  have z_Draft_game : FldOk K (clsA K "Draft") "game" := ⟨Z.cls_Draft, Z.f_Draft_game⟩
  have z_Draft__done_steps : FldOk K (clsA K "Draft") "_done_steps" := ⟨Z.cls_Draft, Z.f_Draft__done_steps⟩
  have z_Draft__back_steps : FldOk K (clsA K "Draft") "_back_steps" := ⟨Z.cls_Draft, Z.f_Draft__back_steps⟩
  have z_Draft__rows_so_far : FldOk K (clsA K "Draft") "_rows_so_far" := ⟨Z.cls_Draft, Z.f_Draft__rows_so_far⟩
  refine meth_of F sc_Draft_done (fun vs M Q E h => sp_Draft_done_len h) (fun f cdv A outer s H E hr => ⟨_, (psscons (psset 1 sc_Draft_done.nd (pcallTy (cTupleK (K := K)) (by rfl) T.b_tuple (by decide +kernel) (pacons (prevL (K := K) (pfld (K := K) (pv 0))) panil)))
      (pssone (psret (pmake (K := K) C_Derivation___init__ (by exact hr.mono (by first | decide | omega)) (pacons (pfld (K := K) (pv 0)) (pacons (pfld (K := K) (pv 0)) (pacons (pcallTy (cTupleK (K := K)) (by rfl) T.b_tuple (by decide +kernel) (pacons (pfld (K := K) (pv 0)) panil)) (pacons (pv 1) (pacons (pcallTy (cTupleK (K := K)) (by rfl) T.b_tuple (by decide +kernel) (pacons (pfld (K := K) (pv 0)) panil)) panil))))))))), fun vs M Q Ep h => ?_⟩)
  obtain ⟨p, px, d, b, r, g0, g, D, B, R, rfl, hd, hD, hB, hR, k⟩ := h
  have h0 : Hd [] M M [] := .start
  have hp := hd.get 0 rfl
  have hbk := hd.get 2 rfl
  walk_at "go"
  intro bl hbl
  replace h0 := h0.new (o := .lst B.reverse) hbl
  replace hd := hd.new (o := .lst B.reverse) hbl
  have hp := hd.get 1 rfl
  have hrr := hd.get 2 rfl
  have hdd := hd.get 4 rfl
  have hbb := hd.get 0 rfl
  walk_at "on"
  intro q qx hq
  refine ⟨q, qx, g0, g, .tup D, _, _, rfl, updM_same, fun M1 hq1 k1 => ⟨rfl, ?_⟩⟩
  have h1 := (h0.new hq).kept k1 hq1
  refine ⟨_, .refl _, k q qx _ _ M1 ?_ hq1 h1.sub⟩
  rcases h1.fr _ List.mem_cons_self with z | z
  · exact z
  · cases z

theorem nameB_len {x : Str} (h : nameB x = true) : x.length ≤ 1000 := by
  rw [nameB_eq, Bool.and_eq_true] at h
  have h := h.1
  rw [headB, Bool.and_eq_true] at h
  have := of_decide_eq_true h.1
  omega
theorem nameB_fr : ∀ k < 40, nameB (frS k) = true := by decide +kernel
/-- the first of m0, m1, .. that is free -/
def free1 (ns : List Str) : Str := ((fl ns 40).head?).getD (frS 0)
theorem fl_congr {a b : List Str} (h : ∀ x, x ∈ a ↔ x ∈ b) (m : Nat) : fl a m = fl b m := by
  unfold fl
  refine List.filter_congr fun x _ => ?_
  rw [decide_eq_decide.mpr (h x)]
theorem free1_of {ns : List Str} (h : ns.length ≤ 39) : ∃ r, fl ns 40 = free1 ns :: r := by
  have h1 := fl_len (names := ns) (n := 1) (by omega)
  obtain ⟨r, hr⟩ := fl_pre ns (m := 1 + ns.length) (n := 40) (by omega)
  unfold free1
  cases e : fl ns 40 with
  | nil => rw [e] at hr; rw [List.append_eq_nil_iff.mp hr.symm |>.1] at h1; simp at h1
  | cons a l => exact ⟨l, rfl⟩
theorem free1_in {ns : List Str} (h : ns.length ≤ 39) : free1 ns ∉ ns ∧ nameB (free1 ns) = true := by
  obtain ⟨r, hr⟩ := free1_of h
  have hm : free1 ns ∈ fl ns 40 := by rw [hr]; exact List.mem_cons_self
  obtain ⟨h1, h2⟩ := List.mem_filter.mp hm
  obtain ⟨k, hk, e⟩ := List.mem_map.mp h1
  exact ⟨by simpa using h2, e ▸ nameB_fr k (by simpa using hk)⟩
theorem freshT_1 {ns : List Str} (h : ns.length ≤ 39) : freshT ns 1 = [free1 ns] := by
  have h1 := fl_len (names := ns) (n := 1) (by omega)
  obtain ⟨r, hr⟩ := fl_pre ns (m := 1 + ns.length) (n := 40) (by omega)
  obtain ⟨r2, hr2⟩ := free1_of h
  unfold freshT
  cases e : fl ns (1 + ns.length) with
  | nil => rw [e] at h1; simp at h1
  | cons a l =>
    rw [e, hr2] at hr
    injection hr with e1 e2
    rw [e1]; rfl
theorem free1_congr {a b : List Str} (h : ∀ x, x ∈ a ↔ x ∈ b) : free1 a = free1 b := by unfold free1; rw [fl_congr h]
/-- a name behind the renames -/
def newS (st : List (Str × Str)) (n : Str) : Str := match st.find? (fun z => decide (z.1 = n)) with
  | some z => z.2
  | none => n
mutual
def calT (st : List (Str × Str)) : Tr → Tr
  | .leaf z => .leaf z
  | .node n cs => .node (newS st n) (calTs st cs)
def calTs (st : List (Str × Str)) : List Tr → List Tr
  | [] => []
  | c :: r => calT st c :: calTs st r
end
theorem newS_snoc {st : List (Str × Str)} {x y n : Str} (h : ∀ z ∈ st, z.2 ≠ x) : newS (st ++ [(x, y)]) n = if newS st n = x then y else newS st n := by
  unfold newS
  rw [List.find?_append]
  cases e : st.find? (fun z => decide (z.1 = n)) with
  | some z => 
    have := h z (List.mem_of_find?_eq_some e)
    simp [this]
  | none =>
    by_cases q : x = n
    · subst q; simp [List.find?]
    · simp [List.find?, q, Ne.symm q]
theorem newS_no {st : List (Str × Str)} {n : Str} (h : ∀ z ∈ st, z.1 ≠ n) : newS st n = n := by
  unfold newS
  rw [List.find?_eq_none.mpr fun z hz => by simpa using h z hz]
mutual
theorem calT_snoc {st : List (Str × Str)} {x y : Str} (h : ∀ z ∈ st, z.2 ≠ x) : ∀ t : Tr, relT x y (calT st t) = calT (st ++ [(x, y)]) t
  | .leaf z => by unfold calT; rw [relT_leaf]
  | .node n cs => by
    unfold calT
    rw [relT_node, newS_snoc h, ← relTs_map, calTs_snoc h]
theorem calTs_snoc {st : List (Str × Str)} {x y : Str} (h : ∀ z ∈ st, z.2 ≠ x) : ∀ cs : List Tr, relTs x y (calTs st cs) = calTs (st ++ [(x, y)]) cs
  | [] => by unfold calTs relTs; rfl
  | c :: r => by
    unfold calTs
    unfold relTs
    rw [calT_snoc h c, calTs_snoc h r]
end
mutual
theorem calT_nil : ∀ t : Tr, calT [] t = t
  | .leaf z => by unfold calT; rfl
  | .node n cs => by unfold calT; rw [calTs_nil]; rfl
theorem calTs_nil : ∀ cs : List Tr, calTs [] cs = cs
  | [] => by unfold calTs; rfl
  | c :: r => by unfold calTs; rw [calT_nil, calTs_nil]
end
theorem calTs_map {st : List (Str × Str)} : ∀ cs : List Tr, calTs st cs = cs.map (calT st)
  | [] => by unfold calTs; rfl
  | c :: r => by unfold calTs; rw [calTs_map r]; rfl
theorem calT_node {st : List (Str × Str)} {n : Str} {cs : List Tr} : calT st (.node n cs) = .node (newS st n) (cs.map (calT st)) := by
  conv => lhs; unfold calT
  rw [calTs_map]
theorem calT_leaf {st : List (Str × Str)} {n : Str} : calT st (.leaf n) = .leaf n := by unfold calT; rfl
theorem BT.cal {st : List (Str × Str)} {n : Nat} {t : Tr} (h : BT n t) : BT n (calT st t) := by
  induction h with
  | leaf => rw [calT_leaf]; exact .leaf
  | node hl hc ih =>
    rw [calT_node]
    refine .node (by rw [List.length_map]; exact hl) fun c hcm => ?_
    obtain ⟨d, hd, rfl⟩ := List.mem_map.mp hcm
    exact ih d hd
abbrev newR (st : List (Str × Str)) (r : Row) : Row := ⟨newS st r.nm, r.ow, r.ws⟩
theorem ren_perm {x y : Str} {w : Row} : ∀ {qs : List Row}, (namesOf qs).Nodup → w ∈ qs → w.nm = x → (qs.map fun r => if r.nm = x then (⟨y, r.ow, r.ws⟩ : Row) else r).Perm (offN qs x ++ [⟨y, w.ow, w.ws⟩])
  | a :: l, nd, hw, hx => by
    obtain ⟨n1, n2⟩ := List.nodup_cons.mp (show (a.nm :: namesOf l).Nodup from nd)
    by_cases e : a.nm = x
    · have ew : w = a := row_eq nd hw List.mem_cons_self (hx.trans e.symm)
      subst ew
      have hl : ∀ r ∈ l, r.nm ≠ x := fun r hr q => n1 (by rw [e, ← q]; exact List.mem_map_of_mem hr)
      have e3 : offN (w :: l) x = offN l x := by rw [offN, List.filter_cons, decide_eq_true e]; rfl
      rw [List.map_cons, if_pos e, e3]
      have e1 : (l.map fun r => if r.nm = x then (⟨y, r.ow, r.ws⟩ : Row) else r) = l := by
        conv => rhs; rw [← List.map_id l]
        exact List.map_congr_left fun r hr => if_neg (hl r hr)
      have e2 : offN l x = l := List.filter_eq_self.mpr fun r hr => by simpa using hl r hr
      rw [e1]
      show ([_] ++ l).Perm (offN l x ++ _)
      rw [e2]
      exact List.perm_append_comm
    · have hw2 : w ∈ l := by
        rcases List.mem_cons.mp hw with q | q
        · exact absurd (q ▸ hx) e
        · exact q
      rw [List.map_cons, if_neg e, show offN (a :: l) x = a :: offN l x by rw [offN, List.filter_cons, decide_eq_false e]; rfl]
      exact (ren_perm n2 hw2 hx).cons a
theorem rows_snoc {st : List (Str × Str)} {x y : Str} {gs qs : List Row} {w : Row} (h : ∀ z ∈ st, z.2 ≠ x) (pm : qs.Perm (gs.map (newR st))) (nd : (namesOf qs).Nodup) (hw : w ∈ qs) (hx : w.nm = x) : (offN qs x ++ [(⟨y, w.ow, w.ws⟩ : Row)]).Perm (gs.map (newR (st ++ [(x, y)]))) := by
  refine (ren_perm nd hw hx).symm.trans ((pm.map _).trans ?_)
  rw [List.map_map]
  refine List.Perm.of_eq (List.map_congr_left fun r _ => ?_)
  show (if newS st r.nm = x then (⟨y, r.ow, r.ws⟩ : Row) else newR st r) = newR (st ++ [(x, y)]) r
  unfold newR
  rw [newS_snoc h]
  split <;> rfl
/-- one row more -/
def goA (taken : List Str) (z : List (Str × Str) × List Str) (x : Str) : List (Str × Str) × List Str :=
  if x ∈ taken then (z.1 ++ [(x, free1 (taken ++ z.2))], (z.2.filter fun n => !decide (n = x)) ++ [free1 (taken ++ z.2)]) else z
def stA (taken names : List Str) (i : Nat) : List (Str × Str) × List Str := (names.take i).foldl (goA taken) ([], names)
theorem stA_zero {taken names : List Str} : stA taken names 0 = ([], names) := rfl
theorem stA_succ {taken names : List Str} {i : Nat} {x : Str} (h : names[i]? = some x) : stA taken names (i + 1) = goA taken (stA taken names i) x := by
  unfold stA
  rw [take_succ' h, List.foldl_append]; rfl
structure InA (taken names : List Str) (i : Nat) (z : List (Str × Str) × List Str) : Prop where
  ol : ∀ q ∈ z.1, q.1 ∈ names.take i ∧ q.1 ∈ taken ∧ q.2 ∉ taken
  me : ∀ n, n ∈ z.2 ↔ n ∈ names.map (newS z.1)
  ml : z.2.length ≤ names.length
  nd : (names.map (newS z.1)).Nodup
  dn : ∀ n ∈ names.take i, newS z.1 n ∉ taken
  sl : z.1.length ≤ i
  sh : ∀ q ∈ z.1, q.2.length ≤ 1000
theorem newS_len {st : List (Str × Str)} {n : Str} (h : ∀ q ∈ st, q.2.length ≤ 1000) (hn : n.length ≤ 1000) : (newS st n).length ≤ 1000 := by
  unfold newS
  cases e : st.find? (fun z => decide (z.1 = n)) with
  | some z => exact h z (List.mem_of_find?_eq_some e)
  | none => exact hn
theorem InA.zero {taken names : List Str} (nd : names.Nodup) : InA taken names 0 ([], names) := by
  have e : names.map (newS []) = names := by
    conv => rhs; rw [← List.map_id names]
    exact List.map_congr_left fun n _ => rfl
  exact ⟨by simp, fun n => by rw [e], Nat.le_refl _, by rw [e]; exact nd, by simp, Nat.le_refl _, by simp⟩
theorem nd_take {α : Type} {l : List α} (nd : l.Nodup) {i : Nat} {x : α} (h : l[i]? = some x) : x ∉ l.take i := fun hm => by
  obtain ⟨j, hj⟩ := List.getElem?_of_mem hm
  have hj1 := lt_of_get hj
  rw [List.length_take] at hj1
  rw [List.getElem?_take, if_pos (by omega)] at hj
  have := (List.getElem?_inj (by omega) nd).mp (hj.trans h.symm)
  omega
theorem InA.next {taken names : List Str} (nd : names.Nodup) (hl : taken.length + names.length ≤ 39) {i : Nat} {x : Str} (h : names[i]? = some x) {z : List (Str × Str) × List Str} (a : InA taken names i z) : InA taken names (i + 1) (goA taken z x) ∧ newS z.1 x = x ∧ (∀ q ∈ z.1, x ∈ taken → q.2 ≠ x) ∧ x ∈ names ∧ (taken ++ z.2).length ≤ 39 := by
  have xn := nd_take nd h
  have hx0 : newS z.1 x = x := newS_no fun q hq e => xn (e ▸ (a.ol q hq).1)
  have xm : x ∈ names := List.mem_of_getElem? h
  have ll : (taken ++ z.2).length ≤ 39 := by rw [List.length_append]; have := a.ml; omega
  refine ⟨?_, hx0, fun q hq hx e => (a.ol q hq).2.2 (e ▸ hx), xm, ll⟩
  by_cases hx : x ∈ taken
  · obtain ⟨f1, f2⟩ := free1_in ll
    rw [goA, if_pos hx]
    generalize free1 (taken ++ z.2) = y at f1 f2
    have y1 : y ∉ taken := fun q => f1 (List.mem_append_left _ q)
    have y2 : y ∉ z.2 := fun q => f1 (List.mem_append_right _ q)
    have hs : ∀ q ∈ z.1, q.2 ≠ x := fun q hq e => (a.ol q hq).2.2 (e ▸ hx)
    have em : names.map (newS (z.1 ++ [(x, y)])) = (names.map (newS z.1)).map fun n => if n = x then y else n := by
      rw [List.map_map]
      exact List.map_congr_left fun n _ => newS_snoc hs
    have xz : x ∈ z.2 := (a.me x).mpr (List.mem_map.mpr ⟨x, xm, hx0⟩)
    refine ⟨fun q hq => ?_, fun n => ?_, ?_, ?_, fun n hn => ?_, ?_, fun q hq => ?_⟩
    · rcases List.mem_append.mp hq with hq | hq
      · obtain ⟨g1, g2, g3⟩ := a.ol q hq
        exact ⟨List.take_subset_take_left _ (Nat.le_succ i) g1, g2, g3⟩
      · rw [List.mem_singleton.mp hq]
        exact ⟨by rw [take_succ' h]; exact List.mem_append_right _ List.mem_cons_self, hx, y1⟩
    · rw [em, List.mem_append, List.mem_filter, List.mem_singleton, List.mem_map]
      constructor
      · rintro (⟨g1, g2⟩ | g)
        · exact ⟨n, (a.me n).mp g1, if_neg (by simpa using g2)⟩
        · exact ⟨x, (a.me x).mp xz, by rw [if_pos rfl, g]⟩
      · rintro ⟨m, g1, g2⟩
        by_cases e : m = x
        · rw [if_pos e] at g2; exact .inr g2.symm
        · rw [if_neg e] at g2; subst g2; exact .inl ⟨(a.me m).mpr g1, by simpa using e⟩
    · rw [List.length_append, List.length_singleton]
      have h1 := len_two (fun n : Str => !decide (n = x)) z.2
      have h2 : 0 < (z.2.filter fun n => !(!decide (n = x))).length := List.length_pos_of_mem (List.mem_filter.mpr ⟨xz, by simp⟩)
      have := a.ml
      omega
    · rw [em]
      have n2 := a.nd
      rw [List.nodup_iff_pairwise_ne, List.pairwise_map]
      rw [List.nodup_iff_pairwise_ne] at n2
      refine n2.imp_of_mem fun {p q} hp hq ne e => ?_
      have yn : ∀ p ∈ names.map (newS z.1), p ≠ y := fun p hp e => y2 ((a.me y).mpr (e ▸ hp))
      by_cases e1 : p = x
      · by_cases e2 : q = x
        · exact ne (e1.trans e2.symm)
        · rw [if_pos e1, if_neg e2] at e; exact yn q hq e.symm
      · by_cases e2 : q = x
        · rw [if_neg e1, if_pos e2] at e; exact yn p hp e
        · rw [if_neg e1, if_neg e2] at e; exact ne e
    · rw [newS_snoc hs]
      by_cases e : newS z.1 n = x
      · rw [if_pos e]; exact y1
      · rw [if_neg e]
        rw [take_succ' h] at hn
        rcases List.mem_append.mp hn with hn | hn
        · exact a.dn n hn
        · rw [List.mem_singleton.mp hn] at e; exact absurd hx0 e
    · rw [List.length_append]; have := a.sl; simp; omega
    · rcases List.mem_append.mp hq with hq | hq
      · exact a.sh q hq
      · rw [List.mem_singleton.mp hq]; exact nameB_len f2
  · rw [goA, if_neg hx]
    refine ⟨fun q hq => ?_, a.me, a.ml, a.nd, fun n hn => ?_, by have := a.sl; omega, a.sh⟩
    · obtain ⟨g1, g2, g3⟩ := a.ol q hq
      exact ⟨List.take_subset_take_left _ (Nat.le_succ i) g1, g2, g3⟩
    · rw [take_succ' h] at hn
      rcases List.mem_append.mp hn with hn | hn
      · exact a.dn n hn
      · rw [List.mem_singleton.mp hn, hx0]; exact hx
theorem InA.at {taken names : List Str} (nd : names.Nodup) (hl : taken.length + names.length ≤ 39) : ∀ i, i ≤ names.length → InA taken names i (stA taken names i)
  | 0, _ => .zero nd
  | i + 1, hi => by
    have h : names[i]? = some names[i] := List.getElem?_eq_getElem (by omega)
    rw [stA_succ h]
    exact (InA.next nd hl h (InA.at nd hl i (by omega))).1
theorem Hd.selfS {S : List Addr} {M0 M : PHp} {L : List (Addr × MO)} (h : Hd S M0 M L) : Hd (L.map Prod.fst) M M L := ⟨fun _ _ _ e => e, h.ats, fun x hx => .inr (List.mem_map_of_mem hx), h.nd⟩
abbrev rnV (z : Str × Str) : PV := .tup [.str "rename", .str z.1, .str z.2]
def sp_apart (K : Kf) : PSpec := fun vs M Q _ => ∃ (hs gs : List Row) (ht : PV) (gt : Tr), vs = [.tup [rowsV hs, ht], gameV gs gt] ∧ SortedN gs ∧ (∀ r ∈ gs, r.ws.length ≤ 1000) ∧ hs.length + gs.length ≤ 30 ∧ BT 13 gt ∧
  ∀ q qx bk sr qs M', qs.Perm (gs.map (newR (stA (namesOf hs) (namesOf gs) gs.length).1)) → SortedN qs → M q = none → M' q = some (.ins (clsA K "Derivation") qx (dvF (gameV gs gt) (gameV qs (calT (stA (namesOf hs) (namesOf gs) gs.length).1 gt)) (.tup ((stA (namesOf hs) (namesOf gs) gs.length).1.map rnV)) bk sr)) → Sub M M' → Q (.ref q) M'
theorem sp_apart_len {K : Kf} {vs : List PV} {M : PHp} {Q : PVK} {E : PXK} (h : sp_apart K vs M Q E) : vs.length = 2 := by
  obtain ⟨_, _, _, _, rfl, _⟩ := h; rfl

theorem ok_apart {P : Program} {w : World} {K : Kf} {mg : Str → Option Value} {base : Heap} (h0 : Here K mg "apart" s_apart ["host", "guest"]) (T : Blt mg) (Z : Zc K mg) (XC : Xc K mg) (Su : Sure P base) (C_Draft___init__ : CalleeK P w K mg base 34 "Draft" ["self", "game"] (sp_Draft___init__ K)) (C_Draft_do : CalleeM P w K mg base 50 (clsA K "Draft") "do" ["self", "step"] (sp_Draft_do K)) (C_Draft_done : CalleeM P w K mg base 36 (clsA K "Draft") "done" ["self"] (sp_Draft_done K)) (C_fresh_names : Callee P w K mg base 34 "fresh_names" ["game", "count"] (sp_fresh_names K)) : Callee P w K mg base 51 "apart" ["host", "guest"] (sp_apart K) := by
  have z_Derivation_start : FldOk K (clsA K "Derivation") "start" := ⟨Z.cls_Derivation, Z.f_Derivation_start⟩
  have z_Derivation_end : FldOk K (clsA K "Derivation") "end" := ⟨Z.cls_Derivation, Z.f_Derivation_end⟩
  have z_Derivation_steps : FldOk K (clsA K "Derivation") "steps" := ⟨Z.cls_Derivation, Z.f_Derivation_steps⟩
  have z_Derivation_back : FldOk K (clsA K "Derivation") "back" := ⟨Z.cls_Derivation, Z.f_Derivation_back⟩
  have z_Derivation__stage_rows : FldOk K (clsA K "Derivation") "_stage_rows" := ⟨Z.cls_Derivation, Z.f_Derivation__stage_rows⟩
  have z_Draft_start : FldOk K (clsA K "Draft") "start" := ⟨Z.cls_Draft, Z.f_Draft_start⟩
  have z_Draft_game : FldOk K (clsA K "Draft") "game" := ⟨Z.cls_Draft, Z.f_Draft_game⟩
  have z_Draft__done_steps : FldOk K (clsA K "Draft") "_done_steps" := ⟨Z.cls_Draft, Z.f_Draft__done_steps⟩
  have z_Draft__back_steps : FldOk K (clsA K "Draft") "_back_steps" := ⟨Z.cls_Draft, Z.f_Draft__back_steps⟩
  have z_Draft__rows_so_far : FldOk K (clsA K "Draft") "_rows_so_far" := ⟨Z.cls_Draft, Z.f_Draft__rows_so_far⟩
  refine ok_of h0 sc_apart (fun vs M Q E h => sp_apart_len h) (fun f cdv A outer s H E hr => ⟨_, (psscons (pssetlcP 2  rfl sc_apart.nd rfl (sw_true rfl rfl rfl (by decide +kernel)) (piseqK (K := K) (pixK (K := K) (pv 0) pinT)) (blkOk_by (own := [("row", 4)]) (N := ["host", "guest", "declared", "draft", "row", "both"]) (sc := defScope s_apart) (by decide +kernel)) (tgName (by decide)) (fun _ _ _ _ _ => (pg_name (i := 4) sc_apart.nd rfl (by first | exact Or.inl rfl | exact Or.inr rfl))) (fun _ _ _ _ _ => (pixK (K := K) (pv 4) pinT)))
      (psscons (psset 3 sc_apart.nd (pmake (K := K) C_Draft___init__ (by exact hr.mono (by first | decide | omega)) (pacons (pv 1) panil)))
      (psscons (psfor PassesOwn.never rfl (piseqK (K := K) (pixK (K := K) (pv 1) pinT)) (pgname (i := 4) sc_apart.nd) (pssone (psif (ptcmp (opIn (K := K)) (pixK (K := K) (pv 4) pinT) (pv 2) rfl) (psscons (psset 5 sc_apart.nd (ptup (pacons (pop opAdd (pixK (K := K) (pv 0) pinT) (pixK (K := K) (pfld (K := K) (pv 3)) pinT)) (pacons (pixK (K := K) (pfld (K := K) (pv 3)) pinT) panil))))
      (pssone (psexpr (pmeth C_Draft_do (by exact hr.mono (by first | decide | omega)) (pv 3) (pacons (ptup (pacons pstr (pacons (pixK (K := K) (pv 4) pinT) (pacons (pixK (K := K) (pcall C_fresh_names (by exact hr.mono (by first | decide | omega)) (pacons (pv 5) (pacons pinT panil))) pinT) panil)))) panil))))) pssnil)))
      (pssone (psret (pmeth0 C_Draft_done (by exact hr.mono (by first | decide | omega)) (pv 3))))))), fun vs M Q Ep h => ?_⟩)
  obtain ⟨hs, gs, ht, gt, rfl, sn, ls, le, hb, k⟩ := h
  have h0 : Hd [] M M [] := .start
  have hl : (hs.map Row.pv).length = hs.length := List.length_map _
  have gl : (gs.map Row.pv).length = gs.length := List.length_map _
  have hnl : (namesOf hs).length = hs.length := List.length_map _
  have gnl : (namesOf gs).length = gs.length := List.length_map _
  have gnd := sn.nodup
  walk_at "go"
  refine ⟨fun i => .str (hs.getD i r0).nm, by omega, fun _ _ => trivial, fun i z M2 Q2 hz sb k3 => ?_, fun Dl l hD hl2 => ?_⟩
  · obtain ⟨r, hr, rfl⟩ := row_at hz
    refine ⟨_, rfl, ?_⟩
    simp only [getD_at hr] at k3
    walk_at "on"
    exact k3 _ (.refl _)
  rw [hl, mk_list hs r0 (fun r => PV.str r.nm), show (hs.map fun r => PV.str r.nm) = (namesOf hs).map PV.str by rw [List.map_map]; rfl] at hl2
  subst hl2
  replace h0 := h0.new (o := .lst ((namesOf hs).map PV.str)) hD
  walk_at "on"
  intro p px hp
  refine ⟨p, px, _, _, rfl, updM_same, fun d b r M1 hd1 => ⟨rfl, ?_⟩⟩
  replace h0 := (h0.new hp).comp hd1
  clear hD hp hd1
  walk_at "on"
  refine ⟨fun i σ M' => ∃ (qs : List Row) (t : Tr) (B R : List PV) (w4 w5 : Option PV), σ = [some (.tup [rowsV hs, ht]), some (gameV gs gt), some (.ref Dl), some (.ref p), w4, w5] ∧ B.length = (stA (namesOf hs) (namesOf gs) i).1.length ∧ R.length = (stA (namesOf hs) (namesOf gs) i).1.length + 1 ∧ qs.Perm (gs.map (newR (stA (namesOf hs) (namesOf gs) i).1)) ∧ SortedN qs ∧ t = calT (stA (namesOf hs) (namesOf gs) i).1 gt ∧ Hd [] M M' (drL K p px (gameV gs gt) (gameV qs t) d b r ((stA (namesOf hs) (namesOf gs) i).1.map rnV) B R ++ [(Dl, .lst ((namesOf hs).map PV.str))]), ⟨_, _, by walk_at "subs", .refl _, gs, gt, [], [rowsV gs], _, _, rfl, rfl, rfl, ?_, sn, ?_, h0⟩, ?_, ?_, ?_⟩
  · rw [stA_zero]
    refine List.Perm.of_eq ?_
    conv => lhs; rw [← List.map_id gs]
    exact List.map_congr_left fun r _ => rfl
  · rw [stA_zero, calT_nil]
  · intros; trivial
  · clear h0
    rintro i z σ M1 hz ⟨qs, t, B, R, w4, w5, rfl, bl, rl, pm, sq, rfl, h0⟩
    obtain ⟨row, hr, rfl⟩ := row_at hz
    have hi := lt_of_get hr
    have hni : (namesOf gs)[i]? = some row.nm := by rw [namesOf, List.getElem?_map, hr]; rfl
    have a := InA.at (taken := namesOf hs) (names := namesOf gs) gnd (by omega) i (by omega)
    obtain ⟨_, hx0, hs0, _, ll⟩ := InA.next gnd (by omega) hni a
    have es := stA_succ (taken := namesOf hs) hni
    have asl := a.sl
    have hdl := h0.get 4 rfl
    have qn : ∀ n, n ∈ namesOf qs ↔ n ∈ (stA (namesOf hs) (namesOf gs) i).2 := fun n => by
      rw [a.me n, (pm.map Row.nm).mem_iff, List.map_map, namesOf, List.map_map]; rfl
    have ql : qs.length = gs.length := by rw [pm.length_eq, List.length_map]
    have qpl : (qs.map Row.pv).length = qs.length := List.length_map _
    walk_at "on"
    refine br_dec (fun h => ?_) (fun h => ?_)
    · have hp := h0.get 0 rfl
      have hm : newR (stA (namesOf hs) (namesOf gs) i).1 row ∈ qs := pm.mem_iff.mpr (List.mem_map_of_mem (List.mem_of_getElem? hr))
      have hw := find_row sq.nodup hm
      rw [show (newR (stA (namesOf hs) (namesOf gs) i).1 row).nm = row.nm from hx0] at hw
      obtain ⟨f1, f2⟩ := free1_in ll
      have ef : freshT (namesOf (hs ++ qs)) 1 = [free1 (namesOf hs ++ (stA (namesOf hs) (namesOf gs) i).2)] := by
        rw [freshT_1 (by rw [namesOf, List.length_map, List.length_append]; omega)]
        refine congrArg (fun z => [z]) (free1_congr fun n => ?_)
        rw [namesOf, List.map_append, List.mem_append, List.mem_append]
        exact or_congr Iff.rfl (qn n)
      rw [goA, if_pos h] at es
      generalize free1 (namesOf hs ++ (stA (namesOf hs) (namesOf gs) i).2) = y at ef es f1 f2
      have y2 : y ∉ namesOf qs := fun q => f1 (List.mem_append_right _ ((qn y).mp q))
      walk_at "on"
      refine ⟨by rw [sizeLine_eq]; omega, ?_⟩
      rw [← List.map_append]
      walk_at "on"
      refine ⟨hs ++ qs, _, 1, rfl, by rw [List.length_append]; omega, ?_⟩
      rw [ef]
      walk_at "on"
      refine ⟨p, px, d, b, r, gameV gs gt, _, B, R, qs, _, row.nm, y, newR (stA (namesOf hs) (namesOf gs) i).1 row, rfl, (h0.less (List.sublist_append_left _ _)).selfS, by rw [List.length_map]; omega, by omega, by omega, ⟨sq, fun q hq => ?_, by omega⟩, hb.cal, nameB_len f2, hw, f2, y2, fun qs2 M2 pm2 sq2 hd2 => ?_⟩
      · obtain ⟨g, hg, rfl⟩ := List.mem_map.mp (pm.mem_iff.mp hq)
        exact ls g hg
      replace h0 := h0.callS (G := drL K p px (gameV gs gt) (gameV qs (calT (stA (namesOf hs) (namesOf gs) i).1 gt)) d b r ((stA (namesOf hs) (namesOf gs) i).1.map rnV) B R) hd2 rfl
      have hs1 : ∀ z ∈ (stA (namesOf hs) (namesOf gs) i).1, z.2 ≠ row.nm := fun z hz => hs0 z hz h
      rw [calT_snoc hs1] at h0
      have pm3 := pm2.trans (rows_snoc (y := y) hs1 pm sq.nodup hm hx0)
      refine ⟨_, _, by walk_at "subs", .refl _, qs2, _, B ++ [rnV (y, row.nm)], R ++ [rowsV qs2], _, _, rfl, ?_, ?_, ?_, sq2, rfl, ?_⟩
      · rw [es, List.length_append, List.length_append, bl]; rfl
      · rw [es, List.length_append, List.length_append, rl]; rfl
      · rw [es]; exact pm3
      · rw [es, List.map_append]; exact h0
    · rw [goA, if_neg h] at es
      exact ⟨_, _, by walk_at "subs", .refl _, qs, _, B, R, _, _, rfl, by rw [es]; exact bl, by rw [es]; exact rl, by rw [es]; exact pm, sq, by rw [es], by rw [es]; exact h0⟩
  · clear h0
    rintro σ M1 ⟨qs, t, B, R, w4, w5, rfl, bl, rl, pm, sq, rfl, h0⟩
    rw [gl] at bl rl pm h0
    have asl := (InA.at (taken := namesOf hs) (names := namesOf gs) gnd (by omega) gs.length (by omega)).sl
    have hp := h0.get 0 rfl
    walk_at "on"
    refine ⟨p, px, d, b, r, gameV gs gt, gameV qs _, _, B, R, rfl, (h0.less (List.sublist_append_left _ _)).selfS, by rw [List.length_map]; omega, by omega, by omega, fun q qx bk sr M' hq hq' sb => ?_⟩
    refine ⟨_, .refl _, k q qx bk sr qs M' pm sq ?_ hq' (h0.sub.trans sb)⟩
    cases e : M q with
    | none => rfl
    | some o => rw [h0.sub q o e] at hq; cases hq

theorem Hd.addn {S : List Addr} {M0 M M' : PHp} {L : List (Addr × MO)} {p : Addr} {o : MO} (h : Hd S M0 M L) (k : Sub M M') (hp : M p = none) (hp' : M' p = some o) : Hd S M0 M' ((p, o) :: L) :=
  (h.new (o := o) hp).step fun b u hb => by
    by_cases e : b = p
    · subst e; rw [updM_same] at hb; cases hb; exact hp'
    · rw [updM_ne e] at hb; exact k _ _ hb
mutual
/-- ends o are g -/
def subT (o : Str) (g : Tr) : Tr → Tr
  | .leaf x => if x = o then g else .leaf x
  | .node n cs => .node n (subTs o g cs)
def subTs (o : Str) (g : Tr) : List Tr → List Tr
  | [] => []
  | c :: r => subT o g c :: subTs o g r
end
theorem subTs_map {o : Str} {g : Tr} : ∀ cs : List Tr, subTs o g cs = cs.map (subT o g)
  | [] => by unfold subTs; rfl
  | c :: r => by unfold subTs; rw [subTs_map r]; rfl
theorem subT_node {o n : Str} {g : Tr} {cs : List Tr} : subT o g (.node n cs) = .node n (cs.map (subT o g)) := by
  conv => lhs; unfold subT
  rw [subTs_map]
theorem subT_leaf {o x : Str} {g : Tr} : subT o g (.leaf x) = if x = o then g else .leaf x := by unfold subT; rfl
theorem BT.mono : ∀ {n m : Nat} {t : Tr}, BT n t → n ≤ m → BT m t
  | n + 1, m + 1, _, .leaf, _ => .leaf
  | n + 1, m + 1, _, .node hl hc, h => .node hl fun c hcm => BT.mono (hc c hcm) (by omega)
  | _ + 1, 0, _, .leaf, h => absurd h (by omega)
  | _ + 1, 0, _, .node _ _, h => absurd h (by omega)
theorem BT.sub {o : Str} {g : Tr} {m : Nat} (hg : BT (m + 1) g) : ∀ {n : Nat} {t : Tr}, BT (n + 1) t → BT (n + m + 1) (subT o g t)
  | n, .leaf x, .leaf => by
    rw [subT_leaf]
    split
    · exact hg.mono (by omega)
    · exact .leaf
  | 0, .node x cs, .node hl hc => by
    rw [subT_node]
    refine .node (by rw [List.length_map]; exact hl) fun c hcm => ?_
    obtain ⟨d, hd, rfl⟩ := List.mem_map.mp hcm
    cases hc d hd
  | n + 1, .node x cs, .node hl hc => by
    rw [subT_node, show n + 1 + m + 1 = (n + m + 1) + 1 by omega]
    refine .node (by rw [List.length_map]; exact hl) fun c hcm => ?_
    obtain ⟨d, hd, rfl⟩ := List.mem_map.mp hcm
    exact BT.sub hg (hc d hd)
mutual
/-- the ends -/
def endsT : Tr → List Str
  | .leaf x => [x]
  | .node _ cs => endsTs cs
def endsTs : List Tr → List Str
  | [] => []
  | c :: r => endsT c ++ endsTs r
end
theorem endsT_leaf {x : Str} : endsT (.leaf x) = [x] := by unfold endsT; rfl
theorem endsT_node {n : Str} {cs : List Tr} : endsT (.node n cs) = endsTs cs := by conv => lhs; unfold endsT
theorem endsTs_cons {c : Tr} {r : List Tr} : endsTs (c :: r) = endsT c ++ endsTs r := by conv => lhs; unfold endsTs
theorem endsTs_nil : endsTs [] = [] := by unfold endsTs; rfl
theorem endsTs_snoc {c : Tr} : ∀ {a : List Tr}, endsTs (a ++ [c]) = endsTs a ++ endsT c
  | [] => by rw [List.nil_append, endsTs_cons, endsTs_nil, List.append_nil, List.nil_append]
  | d :: a => by rw [List.cons_append, endsTs_cons, endsTs_cons, endsTs_snoc, List.append_assoc]
mutual
theorem subT_assoc {o p : Str} {g h : Tr} : ∀ {t : Tr}, (p = o ∨ p ∉ endsT t) → subT p h (subT o g t) = subT o (subT p h g) t
  | .leaf x, q => by
    rw [subT_leaf, subT_leaf]
    by_cases e : x = o
    · rw [if_pos e, if_pos e]
    · rw [if_neg e, if_neg e, subT_leaf, if_neg]
      rcases q with q | q
      · rw [q]; exact e
      · intro z; rw [endsT_leaf] at q; exact q (by rw [z]; exact List.mem_cons_self)
  | .node n cs, q => by
    rw [endsT_node] at q
    rw [subT_node, subT_node, subT_node, ← subTs_map, ← subTs_map, ← subTs_map, subTs_assoc q]
theorem subTs_assoc {o p : Str} {g h : Tr} : ∀ {cs : List Tr}, (p = o ∨ p ∉ endsTs cs) → subTs p h (subTs o g cs) = subTs o (subT p h g) cs
  | [], _ => by unfold subTs; unfold subTs; rfl
  | c :: r, q => by
    have q1 : p = o ∨ p ∉ endsT c := q.imp id fun z y => z (by rw [endsTs_cons]; exact List.mem_append_left _ y)
    have q2 : p = o ∨ p ∉ endsTs r := q.imp id fun z y => z (by rw [endsTs_cons]; exact List.mem_append_right _ y)
    have e1 : ∀ (o : Str) (g c : Tr) (r : List Tr), subTs o g (c :: r) = subT o g c :: subTs o g r := fun o g c r => by conv => lhs; unfold subTs
    rw [e1, e1, e1, subT_assoc q1, subTs_assoc q2]
end

def sp__with_guest (K : Kf) (n : Nat) : PSpec := fun vs M Q _ => ∃ (t g : Tr) (o : Str), vs = [t.pv, .str o, g.pv] ∧ BT n t ∧ Q (subT o g t).pv M
theorem sp__with_guest_len {K : Kf} {n : Nat} {vs : List PV} {M : PHp} {Q : PVK} {E : PXK} (h : sp__with_guest K n vs M Q E) : vs.length = 3 := by
  obtain ⟨_, _, _, rfl, _⟩ := h; rfl
theorem sp__with_guest_zero {K : Kf} {vs : List PV} {M : PHp} {Q : PVK} {E : PXK} (h : sp__with_guest K 0 vs M Q E) : False := by
  obtain ⟨_, _, _, rfl, h, _⟩ := h; cases h

theorem ok__with_guest {P : Program} {w : World} {K : Kf} {mg : Str → Option Value} {base : Heap} (h0 : Here K mg "_with_guest" s__with_guest ["tree", "outcome", "guest"]) (T : Blt mg) (Z : Zc K mg) (XC : Xc K mg) (Su : Sure P base)  : ∀ n : Nat, Callee P w K mg base (34 + n) "_with_guest" ["tree", "outcome", "guest"] (sp__with_guest K n)
  | 0 => (Callee.never (k := 33) h0 sc__with_guest).imp fun _ _ _ _ h => (sp__with_guest_zero h).elim
  | n + 1 => by
    have C__with_guest := ok__with_guest (P := P) (w := w) (base := base) h0 T Z XC Su  n
    have z_Derivation_start : FldOk K (clsA K "Derivation") "start" := ⟨Z.cls_Derivation, Z.f_Derivation_start⟩
    have z_Derivation_end : FldOk K (clsA K "Derivation") "end" := ⟨Z.cls_Derivation, Z.f_Derivation_end⟩
    have z_Derivation_steps : FldOk K (clsA K "Derivation") "steps" := ⟨Z.cls_Derivation, Z.f_Derivation_steps⟩
    have z_Derivation_back : FldOk K (clsA K "Derivation") "back" := ⟨Z.cls_Derivation, Z.f_Derivation_back⟩
    have z_Derivation__stage_rows : FldOk K (clsA K "Derivation") "_stage_rows" := ⟨Z.cls_Derivation, Z.f_Derivation__stage_rows⟩
    have z_Draft_start : FldOk K (clsA K "Draft") "start" := ⟨Z.cls_Draft, Z.f_Draft_start⟩
    have z_Draft_game : FldOk K (clsA K "Draft") "game" := ⟨Z.cls_Draft, Z.f_Draft_game⟩
    have z_Draft__done_steps : FldOk K (clsA K "Draft") "_done_steps" := ⟨Z.cls_Draft, Z.f_Draft__done_steps⟩
    have z_Draft__back_steps : FldOk K (clsA K "Draft") "_back_steps" := ⟨Z.cls_Draft, Z.f_Draft__back_steps⟩
    have z_Draft__rows_so_far : FldOk K (clsA K "Draft") "_rows_so_far" := ⟨Z.cls_Draft, Z.f_Draft__rows_so_far⟩
    refine ok_of (k := 34 + n) h0 sc__with_guest (fun vs M Q E h => sp__with_guest_len h) (fun f cdv A outer s H E hr => ⟨_, (psscons (psif (ptval (pcallB (cIsiK (K := K)) (by rfl) T.b_isinstance (by decide +kernel) (pacons (pv 0) (pacons (pbltn (p := .ty "str") (v := .ty "str") (by rfl) T.b_str (by decide +kernel) rfl (fun _ => .ty _)) panil)))) (pssone (psret (pifx (ptcmp (opEqK (K := K) (by exact hr.units)) (pv 0) (pv 1) (nomark _)) (pv 2) (pv 0)))) pssnil)
      (pssone (psret (ptup (pacons (pixK (K := K) (pv 0) pinT) (pacons (pcallTy (cTupleK (K := K)) (by rfl) T.b_tuple (by decide +kernel) (pacons (plcP  rfl sc__with_guest.nd (piseqK (K := K) (pixK (K := K) (pv 0) pinT)) (blkOk_by (own := [("child", 3)]) (N := ["tree", "outcome", "guest", "child"]) (sc := defScope s__with_guest) (by decide +kernel)) (tgName (by decide)) (fun _ _ _ _ _ => (pg_name (i := 3) sc__with_guest.nd rfl (by first | exact Or.inl rfl | exact Or.inr rfl))) (fun _ _ _ _ _ => (pcall C__with_guest (by exact hr.mono (by first | decide | omega)) (pacons (pv 3) (pacons (pv 1) (pacons (pv 2) panil)))))) panil)) panil)))))), fun vs M Q Ep h => ?_⟩)
    obtain ⟨t, g, o, rfl, hb, k⟩ := h
    cases hb with
    | leaf =>
      rw [subT_leaf] at k
      walk_at "go"
      refine br_dec (fun h => ?_) (fun h => ?_)
      · rw [if_pos h] at k
        walk_at "on"
        exact ⟨_, .refl _, k⟩
      · rw [if_neg h] at k
        walk_at "on"
        exact ⟨_, .refl _, k⟩
    | @node _ n' cs hl hc =>
      have pl : (Tr.pvs cs).length = cs.length := pvs_len
      rw [subT_node] at k
      have kv : (Tr.node n' (cs.map (subT o g))).pv = .tup [.str n', .tup (cs.map fun c => (subT o g c).pv)] := by
        show PV.tup [.str _, .tup (Tr.pvs _)] = _
        rw [Tr.pvs_map, List.map_map]; rfl
      rw [kv] at k
      walk_at "go"
      refine ⟨fun i => (subT o g (cs.getD i (.leaf o))).pv, by omega, fun _ _ => trivial, fun i z M2 Q2 hz sb k3 => ?_, fun Dl l hD hl2 => ?_⟩
      · obtain ⟨c, hc2, rfl⟩ := kid_of hz
        refine ⟨_, rfl, ?_⟩
        simp only [getD_at hc2] at k3
        walk_at "on"
        exact ⟨c, g, o, rfl, hc c (List.mem_of_getElem? hc2), k3 _ (.refl _)⟩
      rw [pl, mk_list cs (.leaf o) (fun c => (subT o g c).pv)] at hl2
      subst hl2
      walk_at "on"
      exact ⟨M, .new hD, k⟩
  
def sp__law_grown (K : Kf) (n : Nat) : PSpec := fun vs M Q _ => ∃ (t g : Tr) (o : Str), vs = [t.pv, .str o, g.pv] ∧ BT n t ∧ Q (subT o g t).pv M
theorem sp__law_grown_len {K : Kf} {n : Nat} {vs : List PV} {M : PHp} {Q : PVK} {E : PXK} (h : sp__law_grown K n vs M Q E) : vs.length = 3 := by
  obtain ⟨_, _, _, rfl, _⟩ := h; rfl
theorem sp__law_grown_zero {K : Kf} {vs : List PV} {M : PHp} {Q : PVK} {E : PXK} (h : sp__law_grown K 0 vs M Q E) : False := by
  obtain ⟨_, _, _, rfl, h, _⟩ := h; cases h

theorem ok__law_grown {P : Program} {w : World} {K : Kf} {mg : Str → Option Value} {base : Heap} (h0 : Here K mg "_law_grown" s__law_grown ["tree", "outcome", "guest"]) (T : Blt mg) (Z : Zc K mg) (XC : Xc K mg) (Su : Sure P base)  : ∀ n : Nat, Callee P w K mg base (34 + n) "_law_grown" ["tree", "outcome", "guest"] (sp__law_grown K n)
  | 0 => (Callee.never (k := 33) h0 sc__law_grown).imp fun _ _ _ _ h => (sp__law_grown_zero h).elim
  | n + 1 => by
    have C__law_grown := ok__law_grown (P := P) (w := w) (base := base) h0 T Z XC Su  n
    have z_Derivation_start : FldOk K (clsA K "Derivation") "start" := ⟨Z.cls_Derivation, Z.f_Derivation_start⟩
    have z_Derivation_end : FldOk K (clsA K "Derivation") "end" := ⟨Z.cls_Derivation, Z.f_Derivation_end⟩
    have z_Derivation_steps : FldOk K (clsA K "Derivation") "steps" := ⟨Z.cls_Derivation, Z.f_Derivation_steps⟩
    have z_Derivation_back : FldOk K (clsA K "Derivation") "back" := ⟨Z.cls_Derivation, Z.f_Derivation_back⟩
    have z_Derivation__stage_rows : FldOk K (clsA K "Derivation") "_stage_rows" := ⟨Z.cls_Derivation, Z.f_Derivation__stage_rows⟩
    have z_Draft_start : FldOk K (clsA K "Draft") "start" := ⟨Z.cls_Draft, Z.f_Draft_start⟩
    have z_Draft_game : FldOk K (clsA K "Draft") "game" := ⟨Z.cls_Draft, Z.f_Draft_game⟩
    have z_Draft__done_steps : FldOk K (clsA K "Draft") "_done_steps" := ⟨Z.cls_Draft, Z.f_Draft__done_steps⟩
    have z_Draft__back_steps : FldOk K (clsA K "Draft") "_back_steps" := ⟨Z.cls_Draft, Z.f_Draft__back_steps⟩
    have z_Draft__rows_so_far : FldOk K (clsA K "Draft") "_rows_so_far" := ⟨Z.cls_Draft, Z.f_Draft__rows_so_far⟩
    refine ok_of (k := 34 + n) h0 sc__law_grown (fun vs M Q E h => sp__law_grown_len h) (fun f cdv A outer s H E hr => ⟨_, (psscons (psif (ptval (pcallB (cIsiK (K := K)) (by rfl) T.b_isinstance (by decide +kernel) (pacons (pv 0) (pacons (pbltn (p := .ty "str") (v := .ty "str") (by rfl) T.b_str (by decide +kernel) rfl (fun _ => .ty _)) panil)))) (psscons (psif (ptcmp (opEqK (K := K) (by exact hr.units)) (pv 0) (pv 1) (nomark _)) (pssone (psret (pv 2))) pssnil)
      (pssone (psret (pv 0)))) pssnil)
      (pssone (psret (ptup (pacons (pixK (K := K) (pv 0) pinT) (pacons (pcallTy (cTupleK (K := K)) (by rfl) T.b_tuple (by decide +kernel) (pacons (plcP  rfl sc__law_grown.nd (piseqK (K := K) (pixK (K := K) (pv 0) pinT)) (blkOk_by (own := [("child", 3)]) (N := ["tree", "outcome", "guest", "child"]) (sc := defScope s__law_grown) (by decide +kernel)) (tgName (by decide)) (fun _ _ _ _ _ => (pg_name (i := 3) sc__law_grown.nd rfl (by first | exact Or.inl rfl | exact Or.inr rfl))) (fun _ _ _ _ _ => (pcall C__law_grown (by exact hr.mono (by first | decide | omega)) (pacons (pv 3) (pacons (pv 1) (pacons (pv 2) panil)))))) panil)) panil)))))), fun vs M Q Ep h => ?_⟩)
    obtain ⟨t, g, o, rfl, hb, k⟩ := h
    cases hb with
    | leaf =>
      rw [subT_leaf] at k
      walk_at "go"
      refine br_dec (fun h => ?_) (fun h => ?_)
      · rw [if_pos h] at k
        walk_at "on"
        exact ⟨_, .refl _, k⟩
      · rw [if_neg h] at k
        walk_at "on"
        exact ⟨_, .refl _, k⟩
    | @node _ n' cs hl hc =>
      have pl : (Tr.pvs cs).length = cs.length := pvs_len
      rw [subT_node] at k
      have kv : (Tr.node n' (cs.map (subT o g))).pv = .tup [.str n', .tup (cs.map fun c => (subT o g c).pv)] := by
        show PV.tup [.str _, .tup (Tr.pvs _)] = _
        rw [Tr.pvs_map, List.map_map]; rfl
      rw [kv] at k
      walk_at "go"
      refine ⟨fun i => (subT o g (cs.getD i (.leaf o))).pv, by omega, fun _ _ => trivial, fun i z M2 Q2 hz sb k3 => ?_, fun Dl l hD hl2 => ?_⟩
      · obtain ⟨c, hc2, rfl⟩ := kid_of hz
        refine ⟨_, rfl, ?_⟩
        simp only [getD_at hc2] at k3
        walk_at "on"
        exact ⟨c, g, o, rfl, hc c (List.mem_of_getElem? hc2), k3 _ (.refl _)⟩
      rw [pl, mk_list cs (.leaf o) (fun c => (subT o g c).pv)] at hl2
      subst hl2
      walk_at "on"
      exact ⟨M, .new hD, k⟩
  
def sp__keep_apart (K : Kf) : PSpec := fun vs M Q E => ∃ (hs gs : List Row) (ht gt : PV), vs = [.tup [rowsV hs, ht], .tup [rowsV gs, gt]] ∧ hs.length ≤ 1000 ∧ (∀ r ∈ gs, r.nm.length ≤ 1000) ∧ ((∀ n ∈ namesOf gs, n ∉ namesOf hs) → Q .non M) ∧ ((∃ n, n ∈ namesOf gs ∧ n ∈ namesOf hs) → ∀ M', Sub M M' → E (.ref (clsA K "NamesMeet")) none M')
theorem sp__keep_apart_len {K : Kf} {vs : List PV} {M : PHp} {Q : PVK} {E : PXK} (h : sp__keep_apart K vs M Q E) : vs.length = 2 := by
  obtain ⟨_, _, _, _, rfl, _⟩ := h; rfl
theorem nd_dj {hs gs : List Row} (h : (namesOf hs).Nodup) (g : (namesOf gs).Nodup) (d : ∀ n ∈ namesOf gs, n ∉ namesOf hs) : (namesOf (hs ++ gs)).Nodup := by
  rw [namesOf, List.map_append, List.nodup_append]
  exact ⟨h, g, fun a ha b hb e => d b hb (e ▸ ha)⟩

theorem ok__keep_apart {P : Program} {w : World} {K : Kf} {mg : Str → Option Value} {base : Heap} (h0 : Here K mg "_keep_apart" s__keep_apart ["game", "other"]) (T : Blt mg) (Z : Zc K mg) (XC : Xc K mg) (Su : Sure P base)  : CalleeR (L2.CX P w) P w K mg base 34 "_keep_apart" ["game", "other"] (sp__keep_apart K) := by
  have z_Derivation_start : FldOk K (clsA K "Derivation") "start" := ⟨Z.cls_Derivation, Z.f_Derivation_start⟩
  have z_Derivation_end : FldOk K (clsA K "Derivation") "end" := ⟨Z.cls_Derivation, Z.f_Derivation_end⟩
  have z_Derivation_steps : FldOk K (clsA K "Derivation") "steps" := ⟨Z.cls_Derivation, Z.f_Derivation_steps⟩
  have z_Derivation_back : FldOk K (clsA K "Derivation") "back" := ⟨Z.cls_Derivation, Z.f_Derivation_back⟩
  have z_Derivation__stage_rows : FldOk K (clsA K "Derivation") "_stage_rows" := ⟨Z.cls_Derivation, Z.f_Derivation__stage_rows⟩
  have z_Draft_start : FldOk K (clsA K "Draft") "start" := ⟨Z.cls_Draft, Z.f_Draft_start⟩
  have z_Draft_game : FldOk K (clsA K "Draft") "game" := ⟨Z.cls_Draft, Z.f_Draft_game⟩
  have z_Draft__done_steps : FldOk K (clsA K "Draft") "_done_steps" := ⟨Z.cls_Draft, Z.f_Draft__done_steps⟩
  have z_Draft__back_steps : FldOk K (clsA K "Draft") "_back_steps" := ⟨Z.cls_Draft, Z.f_Draft__back_steps⟩
  have z_Draft__rows_so_far : FldOk K (clsA K "Draft") "_rows_so_far" := ⟨Z.cls_Draft, Z.f_Draft__rows_so_far⟩
  refine okR_z h0 sc__keep_apart (fun vs M Q E h => sp__keep_apart_len h) (fun f cdv A outer s H E Ep hr air tk own => ⟨_, (psscons (pssetlcP 2  rfl sc__keep_apart.nd rfl (sw_true rfl rfl rfl (by decide +kernel)) (piseqK (K := K) (pixK (K := K) (pv 0) pinT)) (blkOk_by (own := [("row", 3)]) (N := ["game", "other", "declared", "row"]) (sc := defScope s__keep_apart) (by decide +kernel)) (tgName (by decide)) (fun _ _ _ _ _ => (pg_name (i := 3) sc__keep_apart.nd rfl (by first | exact Or.inl rfl | exact Or.inr rfl))) (fun _ _ _ _ _ => (pixK (K := K) (pv 3) pinT)))
      (pssone (psfor own rfl (piseqK (K := K) (pixK (K := K) (pv 1) pinT)) (pgname (i := 3) sc__keep_apart.nd) (pssone (psif (ptcmp (opIn (K := K)) (pixK (K := K) (pv 3) pinT) (pv 2) rfl) (pssone (psraise1 air XC.o_NamesMeet (pop opAdd pstr (pixK (K := K) (pv 3) pinT)))) pssnil))))), fun vs M Q h => ?_⟩)
  obtain ⟨hs, gs, ht, gt, rfl, hle, nle, k1, k2⟩ := h
  have h0 : Hd [] M M [] := .start
  have hl : (hs.map Row.pv).length = hs.length := List.length_map _
  have gl : (gs.map Row.pv).length = gs.length := List.length_map _
  walk_at "go"
  refine ⟨fun i => .str (hs.getD i r0).nm, by omega, fun _ _ => trivial, fun i z M2 Q2 hz sb k3 => ?_, fun Dl l hD hl2 => ?_⟩
  · obtain ⟨r, hr, rfl⟩ := row_at hz
    refine ⟨_, rfl, ?_⟩
    simp only [getD_at hr] at k3
    walk_at "on"
    exact k3 _ (.refl _)
  rw [hl, mk_list hs r0 (fun r => PV.str r.nm), show (hs.map fun r => PV.str r.nm) = (namesOf hs).map PV.str by rw [List.map_map]; rfl] at hl2
  subst hl2
  replace h0 := h0.new (o := .lst ((namesOf hs).map PV.str)) hD
  clear hD
  walk_at "on"
  refine ⟨fun i σ M' => ∃ w3 : Option PV, σ = [some (.tup [rowsV hs, ht]), some (.tup [rowsV gs, gt]), some (.ref Dl), w3] ∧ (∀ r ∈ gs.take i, r.nm ∉ namesOf hs) ∧ Hd [] M M' [(Dl, .lst ((namesOf hs).map PV.str))], ⟨_, _, by walk_at "subs", .refl _, _, rfl, by simp, h0⟩, ?_, ?_, ?_⟩
  · intros; trivial
  · clear h0
    rintro i z σ M1 hz ⟨w3, rfl, hn, h0⟩
    obtain ⟨row, hr, rfl⟩ := row_at hz
    walk_at "on"
    refine br_dec (fun h => ?_) (fun h => ?_)
    · walk_at "on"
      have nl := nle row (List.mem_of_getElem? hr)
      have tl : (Str.ofString "both games declare the set ").length ≤ 100 := by decide +kernel
      refine ⟨by rw [sizeLine_eq]; omega, ?_⟩
      exact ⟨_, .refl _, k2 ⟨row.nm, List.mem_map_of_mem (List.mem_of_getElem? hr), h⟩ _ h0.sub⟩
    · refine ⟨_, _, by walk_at "subs", .refl _, _, rfl, fun r hr2 => ?_, h0⟩
      rw [take_succ' hr] at hr2
      rcases List.mem_append.mp hr2 with q | q
      · exact hn r q
      · rw [List.mem_singleton.mp q]; exact h
  · clear h0
    rintro σ M1 ⟨w3, rfl, hn, h0⟩
    rw [gl, List.take_of_length_le (Nat.le_refl _)] at hn
    walk_at "on"
    refine ⟨_, h0.sub, k1 fun n hm => ?_⟩
    obtain ⟨r, hr, rfl⟩ := List.mem_map.mp hm
    exact hn r hr

def sp_substitute (K : Kf) : PSpec := fun vs M Q E => ∃ (hs gs : List Row) (ht gt : Tr) (o : Str), vs = [gameV hs ht, .str o, gameV gs gt] ∧ hs.length ≤ 1000 ∧ gs.length ≤ 1000 ∧ (∀ r ∈ gs, r.nm.length ≤ 1000) ∧ (∀ r ∈ hs ++ gs, r.ws.length ≤ 1000) ∧ BT 17 ht ∧
  (namesOf hs).Nodup ∧ (namesOf gs).Nodup ∧ ((∀ n ∈ namesOf gs, n ∉ namesOf hs) → ∀ qs, qs.Perm (hs ++ gs) → SortedN qs → Q (gameV qs (subT o gt ht)) M) ∧ ((∃ n, n ∈ namesOf gs ∧ n ∈ namesOf hs) → ∀ M', Sub M M' → E (.ref (clsA K "NamesMeet")) none M')
theorem sp_substitute_len {K : Kf} {vs : List PV} {M : PHp} {Q : PVK} {E : PXK} (h : sp_substitute K vs M Q E) : vs.length = 3 := by
  obtain ⟨_, _, _, _, _, rfl, _⟩ := h; rfl

theorem ok_substitute {P : Program} {w : World} {K : Kf} {mg : Str → Option Value} {base : Heap} (h0 : Here K mg "substitute" s_substitute ["host", "outcome", "guest"]) (T : Blt mg) (Z : Zc K mg) (XC : Xc K mg) (Su : Sure P base) (C__keep_apart : CalleeR (L2.CX P w) P w K mg base 34 "_keep_apart" ["game", "other"] (sp__keep_apart K)) (C__with_guest : Callee P w K mg base 51 "_with_guest" ["tree", "outcome", "guest"] (sp__with_guest K 17)) : CalleeR (L2.CX P w) P w K mg base 52 "substitute" ["host", "outcome", "guest"] (sp_substitute K) := by
  have z_Derivation_start : FldOk K (clsA K "Derivation") "start" := ⟨Z.cls_Derivation, Z.f_Derivation_start⟩
  have z_Derivation_end : FldOk K (clsA K "Derivation") "end" := ⟨Z.cls_Derivation, Z.f_Derivation_end⟩
  have z_Derivation_steps : FldOk K (clsA K "Derivation") "steps" := ⟨Z.cls_Derivation, Z.f_Derivation_steps⟩
  have z_Derivation_back : FldOk K (clsA K "Derivation") "back" := ⟨Z.cls_Derivation, Z.f_Derivation_back⟩
  have z_Derivation__stage_rows : FldOk K (clsA K "Derivation") "_stage_rows" := ⟨Z.cls_Derivation, Z.f_Derivation__stage_rows⟩
  have z_Draft_start : FldOk K (clsA K "Draft") "start" := ⟨Z.cls_Draft, Z.f_Draft_start⟩
  have z_Draft_game : FldOk K (clsA K "Draft") "game" := ⟨Z.cls_Draft, Z.f_Draft_game⟩
  have z_Draft__done_steps : FldOk K (clsA K "Draft") "_done_steps" := ⟨Z.cls_Draft, Z.f_Draft__done_steps⟩
  have z_Draft__back_steps : FldOk K (clsA K "Draft") "_back_steps" := ⟨Z.cls_Draft, Z.f_Draft__back_steps⟩
  have z_Draft__rows_so_far : FldOk K (clsA K "Draft") "_rows_so_far" := ⟨Z.cls_Draft, Z.f_Draft__rows_so_far⟩
  refine okR_z h0 sc_substitute (fun vs M Q E h => sp_substitute_len h) (fun f cdv A outer s H E Ep hr air tk own => ⟨_, (psscons (psexpr (pcallR C__keep_apart air (by exact hr.mono (by first | decide | omega)) (pacons (pv 0) (pacons (pv 2) panil))))
      (psscons (psset 3 sc_substitute.nd (pcallTy (cTupleK (K := K)) (by rfl) T.b_tuple (by decide +kernel) (pacons (pcallB (cSortDK (K := K) (by exact hr.units)) (by rfl) T.b_sorted (by decide +kernel) (pacons (pop opAdd (pixK (K := K) (pv 0) pinT) (pixK (K := K) (pv 2) pinT)) panil)) panil)))
      (pssone (psret (ptup (pacons (pv 3) (pacons (pcall C__with_guest (by exact hr.mono (by first | decide | omega)) (pacons (pixK (K := K) (pv 0) pinT) (pacons (pv 1) (pacons (pixK (K := K) (pv 2) pinT) panil)))) panil))))))), fun vs M Q h => ?_⟩)
  obtain ⟨hs, gs, ht, gt, o, rfl, hle, gle, nle, wle, hb, hnd, gnd, k1, k2⟩ := h
  have hl : (hs.map Row.pv).length = hs.length := List.length_map _
  have gl : (gs.map Row.pv).length = gs.length := List.length_map _
  walk_at "go"
  refine ⟨hs, gs, _, _, rfl, hle, nle, fun dj => ?_, k2⟩
  have nd := nd_dj hnd gnd dj
  walk_at "on"
  refine ⟨by rw [sizeLine_eq]; omega, ?_⟩
  rw [← List.map_append]
  obtain ⟨qs, e2, pm, sn⟩ := sort_rows nd
  walk_at "on"
  refine ⟨_, rfl, rows_pure wle, (rows_sortable _).1, (rows_sortable _).2, fun p hp => ?_⟩
  rw [e2]
  walk_at "on"
  refine ⟨ht, gt, o, rfl, hb, ?_⟩
  walk_at "on"
  exact ⟨M, .new hp, k1 dj qs pm sn⟩

def sp__law_whole (K : Kf) : PSpec := fun vs M Q _ => ∃ (hs gs : List Row) (ht gt : Tr) (o : Str), vs = [gameV hs ht, .str o, gameV gs gt] ∧ hs.length ≤ 1000 ∧ gs.length ≤ 1000 ∧ (∀ r ∈ hs ++ gs, r.ws.length ≤ 1000) ∧ BT 17 ht ∧
  (namesOf hs).Nodup ∧ (namesOf gs).Nodup ∧ (∀ n ∈ namesOf gs, n ∉ namesOf hs) ∧ ∀ qs, qs.Perm (hs ++ gs) → SortedN qs → Q (gameV qs (subT o gt ht)) M
theorem sp__law_whole_len {K : Kf} {vs : List PV} {M : PHp} {Q : PVK} {E : PXK} (h : sp__law_whole K vs M Q E) : vs.length = 3 := by
  obtain ⟨_, _, _, _, _, rfl, _⟩ := h; rfl

theorem ok__law_whole {P : Program} {w : World} {K : Kf} {mg : Str → Option Value} {base : Heap} (h0 : Here K mg "_law_whole" s__law_whole ["host", "outcome", "guest"]) (T : Blt mg) (Z : Zc K mg) (XC : Xc K mg) (Su : Sure P base) (C__law_grown : Callee P w K mg base 51 "_law_grown" ["tree", "outcome", "guest"] (sp__law_grown K 17)) : Callee P w K mg base 52 "_law_whole" ["host", "outcome", "guest"] (sp__law_whole K) := by
  have z_Derivation_start : FldOk K (clsA K "Derivation") "start" := ⟨Z.cls_Derivation, Z.f_Derivation_start⟩
  have z_Derivation_end : FldOk K (clsA K "Derivation") "end" := ⟨Z.cls_Derivation, Z.f_Derivation_end⟩
  have z_Derivation_steps : FldOk K (clsA K "Derivation") "steps" := ⟨Z.cls_Derivation, Z.f_Derivation_steps⟩
  have z_Derivation_back : FldOk K (clsA K "Derivation") "back" := ⟨Z.cls_Derivation, Z.f_Derivation_back⟩
  have z_Derivation__stage_rows : FldOk K (clsA K "Derivation") "_stage_rows" := ⟨Z.cls_Derivation, Z.f_Derivation__stage_rows⟩
  have z_Draft_start : FldOk K (clsA K "Draft") "start" := ⟨Z.cls_Draft, Z.f_Draft_start⟩
  have z_Draft_game : FldOk K (clsA K "Draft") "game" := ⟨Z.cls_Draft, Z.f_Draft_game⟩
  have z_Draft__done_steps : FldOk K (clsA K "Draft") "_done_steps" := ⟨Z.cls_Draft, Z.f_Draft__done_steps⟩
  have z_Draft__back_steps : FldOk K (clsA K "Draft") "_back_steps" := ⟨Z.cls_Draft, Z.f_Draft__back_steps⟩
  have z_Draft__rows_so_far : FldOk K (clsA K "Draft") "_rows_so_far" := ⟨Z.cls_Draft, Z.f_Draft__rows_so_far⟩
  refine ok_of h0 sc__law_whole (fun vs M Q E h => sp__law_whole_len h) (fun f cdv A outer s H E hr => ⟨_, (pssone (psret (ptup (pacons (pcallTy (cTupleK (K := K)) (by rfl) T.b_tuple (by decide +kernel) (pacons (pcallB (cSortDK (K := K) (by exact hr.units)) (by rfl) T.b_sorted (by decide +kernel) (pacons (pop opAdd (pixK (K := K) (pv 0) pinT) (pixK (K := K) (pv 2) pinT)) panil)) panil)) (pacons (pcall C__law_grown (by exact hr.mono (by first | decide | omega)) (pacons (pixK (K := K) (pv 0) pinT) (pacons (pv 1) (pacons (pixK (K := K) (pv 2) pinT) panil)))) panil))))), fun vs M Q Ep h => ?_⟩)
  obtain ⟨hs, gs, ht, gt, o, rfl, hle, gle, wle, hb, hnd, gnd, dj, k⟩ := h
  have hl : (hs.map Row.pv).length = hs.length := List.length_map _
  have gl : (gs.map Row.pv).length = gs.length := List.length_map _
  have nd := nd_dj hnd gnd dj
  walk_at "go"
  refine ⟨by rw [sizeLine_eq]; omega, ?_⟩
  rw [← List.map_append]
  obtain ⟨qs, e2, pm, sn⟩ := sort_rows nd
  walk_at "on"
  refine ⟨_, rfl, rows_pure wle, (rows_sortable _).1, (rows_sortable _).2, fun p hp => ?_⟩
  rw [e2]
  walk_at "on"
  refine ⟨ht, gt, o, rfl, hb, ?_⟩
  walk_at "on"
  exact ⟨M, .new hp, k qs pm sn⟩

theorem ends_len : ∀ {us : List Str} {rs : List Row} {t : Tr}, TOk us rs t → (∀ r ∈ rs, r.ws.length ≤ 4) → (endsT t).length ≤ 4 ^ rs.length := by
  intro us rs t h
  induction h with
  | leaf hx => intro _; rw [endsT_leaf]; exact Nat.pow_pos (by decide)
  | @node rs r cs hr hl hc ih =>
    intro hw
    have key : ∀ l : List Tr, (∀ c ∈ l, (endsT c).length ≤ 4 ^ (offN rs r.nm).length) → (endsTs l).length ≤ l.length * 4 ^ (offN rs r.nm).length := by
      intro l
      induction l with
      | nil => intro _; rw [endsTs_nil]; simp
      | cons c l ihl =>
        intro h
        rw [endsTs_cons, List.length_append, List.length_cons, Nat.succ_mul]
        have := h c List.mem_cons_self
        have := ihl fun d hd => h d (List.mem_cons_of_mem _ hd)
        omega
    have h1 := key cs fun c hcm => ih c hcm fun q hq => hw q (offN_sub hq)
    have h2 := offN_len hr
    have h3 : 4 ^ ((offN rs r.nm).length + 1) ≤ 4 ^ rs.length := Nat.pow_le_pow_right (by omega) h2
    have h4 : cs.length ≤ 4 := by rw [hl]; exact hw r hr
    have h5 : cs.length * 4 ^ (offN rs r.nm).length ≤ 4 * 4 ^ (offN rs r.nm).length := Nat.mul_le_mul_right _ h4
    rw [endsT_node]
    rw [Nat.pow_succ] at h3
    omega
def sp__law_ends (K : Kf) (n : Nat) : PSpec := fun vs M Q _ => ∃ t : Tr, vs = [t.pv] ∧ BT n t ∧ (endsT t).length ≤ 8000000 ∧ ∀ l M', M l = none → M' l = some (.lst ((endsT t).map PV.str)) → Sub M M' → Q (.ref l) M'
theorem sp__law_ends_len {K : Kf} {n : Nat} {vs : List PV} {M : PHp} {Q : PVK} {E : PXK} (h : sp__law_ends K n vs M Q E) : vs.length = 1 := by
  obtain ⟨_, rfl, _⟩ := h; rfl
theorem sp__law_ends_zero {K : Kf} {vs : List PV} {M : PHp} {Q : PVK} {E : PXK} (h : sp__law_ends K 0 vs M Q E) : False := by
  obtain ⟨_, rfl, h, _⟩ := h; cases h
theorem endsTs_take (cs : List Tr) (i : Nat) : (endsTs (cs.take i)).length ≤ (endsTs cs).length := by
  have e : endsTs cs = endsTs (cs.take i) ++ endsTs (cs.drop i) := by
    have key : ∀ a b : List Tr, endsTs (a ++ b) = endsTs a ++ endsTs b := by
      intro a b
      induction a with
      | nil => rw [List.nil_append, endsTs_nil, List.nil_append]
      | cons c r ih => rw [List.cons_append, endsTs_cons, endsTs_cons, ih, List.append_assoc]
    rw [← key, List.take_append_drop]
  rw [e, List.length_append]; omega

theorem ok__law_ends {P : Program} {w : World} {K : Kf} {mg : Str → Option Value} {base : Heap} (h0 : Here K mg "_law_ends" s__law_ends ["tree"]) (T : Blt mg) (Z : Zc K mg) (XC : Xc K mg) (Su : Sure P base)  : ∀ n : Nat, Callee P w K mg base (34 + n) "_law_ends" ["tree"] (sp__law_ends K n)
  | 0 => (Callee.never (k := 33) h0 sc__law_ends).imp fun _ _ _ _ h => (sp__law_ends_zero h).elim
  | n + 1 => by
    have C__law_ends := ok__law_ends (P := P) (w := w) (base := base) h0 T Z XC Su  n
    have z_Derivation_start : FldOk K (clsA K "Derivation") "start" := ⟨Z.cls_Derivation, Z.f_Derivation_start⟩
    have z_Derivation_end : FldOk K (clsA K "Derivation") "end" := ⟨Z.cls_Derivation, Z.f_Derivation_end⟩
    have z_Derivation_steps : FldOk K (clsA K "Derivation") "steps" := ⟨Z.cls_Derivation, Z.f_Derivation_steps⟩
    have z_Derivation_back : FldOk K (clsA K "Derivation") "back" := ⟨Z.cls_Derivation, Z.f_Derivation_back⟩
    have z_Derivation__stage_rows : FldOk K (clsA K "Derivation") "_stage_rows" := ⟨Z.cls_Derivation, Z.f_Derivation__stage_rows⟩
    have z_Draft_start : FldOk K (clsA K "Draft") "start" := ⟨Z.cls_Draft, Z.f_Draft_start⟩
    have z_Draft_game : FldOk K (clsA K "Draft") "game" := ⟨Z.cls_Draft, Z.f_Draft_game⟩
    have z_Draft__done_steps : FldOk K (clsA K "Draft") "_done_steps" := ⟨Z.cls_Draft, Z.f_Draft__done_steps⟩
    have z_Draft__back_steps : FldOk K (clsA K "Draft") "_back_steps" := ⟨Z.cls_Draft, Z.f_Draft__back_steps⟩
    have z_Draft__rows_so_far : FldOk K (clsA K "Draft") "_rows_so_far" := ⟨Z.cls_Draft, Z.f_Draft__rows_so_far⟩
    refine ok_of (k := 34 + n) h0 sc__law_ends (fun vs M Q E h => sp__law_ends_len h) (fun f cdv A outer s H E hr => ⟨_, (psscons (psif (ptval (pcallB (cIsiK (K := K)) (by rfl) T.b_isinstance (by decide +kernel) (pacons (pv 0) (pacons (pbltn (p := .ty "str") (v := .ty "str") (by rfl) T.b_str (by decide +kernel) rfl (fun _ => .ty _)) panil)))) (pssone (psret (plst (pacons (pv 0) panil)))) pssnil)
      (psscons (psset 1 sc__law_ends.nd (plst panil))
      (psscons (psfor PassesOwn.never rfl (piseqK (K := K) (pixK (K := K) (pv 0) pinT)) (pgname (i := 2) sc__law_ends.nd) (pssone (psset 1 sc__law_ends.nd (pop opAdd (pv 1) (pcall C__law_ends (by exact hr.mono (by first | decide | omega)) (pacons (pv 2) panil))))))
      (pssone (psret (pv 1)))))), fun vs M Q Ep h => ?_⟩)
    obtain ⟨t, rfl, hb, hl, k⟩ := h
    have h0 : Hd [] M M [] := .start
    cases hb with
    | leaf =>
      rw [endsT_leaf] at k
      walk_at "go"
      intro l hl0
      exact ⟨_, .refl _, k l _ hl0 updM_same (.new hl0)⟩
    | @node _ n' cs hcl hc =>
      have pl : (Tr.pvs cs).length = cs.length := pvs_len
      rw [endsT_node] at k hl
      walk_at "go"
      refine ald h0 fun f hf h0 => ?_
      replace h0 := h0 (.lst [])
      walk_at "on"
      refine ⟨fun i σ M' => ∃ (f : Addr) (w2 : Option PV), σ = [some (Tr.node n' cs).pv, some (.ref f), w2] ∧ Hd [] M M' [(f, .lst ((endsTs (cs.take i)).map PV.str))], ⟨_, _, by walk_at "subs", .refl _, f, _, rfl, by rw [List.take_zero, endsTs_nil]; exact h0⟩, ?_, ?_, ?_⟩
      · intros; trivial
      · clear h0 hf f
        rintro i z σ M1 hz ⟨f, w2, rfl, h0⟩
        obtain ⟨c, hc2, rfl⟩ := kid_of hz
        have e1 : endsTs (cs.take (i + 1)) = endsTs (cs.take i) ++ endsT c := by rw [take_succ' hc2, endsTs_snoc]
        have l1 := endsTs_take cs (i + 1)
        rw [e1, List.length_append] at l1
        walk_at "on"
        refine ⟨c, rfl, hc c (List.mem_of_getElem? hc2), by omega, fun l M2 hl2 hl3 sb => ?_⟩
        replace h0 := h0.addn sb hl2 hl3
        walk_at "on"
        refine ⟨_, _, h0.get 1 rfl, h0.get 0 rfl, by rw [List.length_map, List.length_map, sizeLine_eq]; omega, fun p hp => ?_⟩
        rw [← List.map_append, ← e1]
        replace h0 := h0.new (o := .lst ((endsTs (cs.take (i + 1))).map PV.str)) hp
        exact ⟨_, _, by walk_at "subs", .refl _, p, _, rfl, h0.less (by simp)⟩
      · clear h0 hf f
        rintro σ M1 ⟨f, w2, rfl, h0⟩
        rw [pl, List.take_of_length_le (Nat.le_refl _)] at h0
        walk_at "on"
        refine ⟨_, .refl _, k f M1 ?_ (h0.get 0 rfl) h0.sub⟩
        rcases h0.fr _ List.mem_cons_self with q | q
        · exact q
        · cases q
  
def sp__law_new (K : Kf) : PSpec := fun vs M Q _ => ∃ (n : Str) (st : List (Str × Str)), vs = [.str n, .tup (st.map rnV)] ∧ Q (.str (newS st n)) M
theorem sp__law_new_len {K : Kf} {vs : List PV} {M : PHp} {Q : PVK} {E : PXK} (h : sp__law_new K vs M Q E) : vs.length = 2 := by
  obtain ⟨_, _, rfl, _⟩ := h; rfl
theorem rn_at {st : List (Str × Str)} {i : Nat} {p : PV} (h : (st.map rnV)[i]? = some p) : ∃ z, st[i]? = some z ∧ p = rnV z := by
  rw [List.getElem?_map] at h
  cases e : st[i]? with
  | none => rw [e] at h; cases h
  | some z => rw [e] at h; exact ⟨z, rfl, (Option.some.inj h).symm⟩

theorem ok__law_new {P : Program} {w : World} {K : Kf} {mg : Str → Option Value} {base : Heap} (h0 : Here K mg "_law_new" s__law_new ["name", "steps"]) (T : Blt mg) (Z : Zc K mg) (XC : Xc K mg) (Su : Sure P base)  : Callee P w K mg base 34 "_law_new" ["name", "steps"] (sp__law_new K) := by
  have z_Derivation_start : FldOk K (clsA K "Derivation") "start" := ⟨Z.cls_Derivation, Z.f_Derivation_start⟩
  have z_Derivation_end : FldOk K (clsA K "Derivation") "end" := ⟨Z.cls_Derivation, Z.f_Derivation_end⟩
  have z_Derivation_steps : FldOk K (clsA K "Derivation") "steps" := ⟨Z.cls_Derivation, Z.f_Derivation_steps⟩
  have z_Derivation_back : FldOk K (clsA K "Derivation") "back" := ⟨Z.cls_Derivation, Z.f_Derivation_back⟩
  have z_Derivation__stage_rows : FldOk K (clsA K "Derivation") "_stage_rows" := ⟨Z.cls_Derivation, Z.f_Derivation__stage_rows⟩
  have z_Draft_start : FldOk K (clsA K "Draft") "start" := ⟨Z.cls_Draft, Z.f_Draft_start⟩
  have z_Draft_game : FldOk K (clsA K "Draft") "game" := ⟨Z.cls_Draft, Z.f_Draft_game⟩
  have z_Draft__done_steps : FldOk K (clsA K "Draft") "_done_steps" := ⟨Z.cls_Draft, Z.f_Draft__done_steps⟩
  have z_Draft__back_steps : FldOk K (clsA K "Draft") "_back_steps" := ⟨Z.cls_Draft, Z.f_Draft__back_steps⟩
  have z_Draft__rows_so_far : FldOk K (clsA K "Draft") "_rows_so_far" := ⟨Z.cls_Draft, Z.f_Draft__rows_so_far⟩
  refine ok_of h0 sc__law_new (fun vs M Q E h => sp__law_new_len h) (fun f cdv A outer s H E hr => ⟨_, (psscons (psfor PassesOwn.never rfl (piseqK (K := K) (pv 1)) (pgname (i := 2) sc__law_new.nd) (pssone (psif (ptcmp (opEqK (K := K) (by exact hr.units)) (pixK (K := K) (pv 2) pinT) (pv 0) (nomark _)) (pssone (psret (pixK (K := K) (pv 2) pinT))) pssnil)))
      (pssone (psret (pv 0)))), fun vs M Q Ep h => ?_⟩)
  obtain ⟨n, st, rfl, k⟩ := h
  have sl : (st.map rnV).length = st.length := List.length_map _
  walk_at "go"
  refine ⟨fun i σ M' => ∃ w2 : Option PV, σ = [some (.str n), some (.tup (st.map rnV)), w2] ∧ M' = M ∧ (∀ z ∈ st.take i, z.1 ≠ n), ⟨_, _, by walk_at "subs", .refl _, _, rfl, rfl, by simp⟩, ?_, ?_, ?_⟩
  · intros; trivial
  · rintro i z σ M1 hz ⟨w2, rfl, rfl, hn⟩
    obtain ⟨q, hq, rfl⟩ := rn_at hz
    walk_at "on"
    refine br_dec (fun h => ?_) (fun h => ?_)
    · walk_at "on"
      have e : newS st n = q.2 := by
        unfold newS
        rw [find_at (i := i) (x := q) hq (decide_eq_true h) fun j y hj hy => decide_eq_false (hn y (List.mem_of_getElem? (by rw [List.getElem?_take, if_pos hj]; exact hy)))]
      rw [e] at k
      exact ⟨_, .refl _, k⟩
    · refine ⟨_, _, by walk_at "subs", .refl _, _, rfl, rfl, fun y hy => ?_⟩
      rw [take_succ' hq] at hy
      rcases List.mem_append.mp hy with g | g
      · exact hn y g
      · rw [List.mem_singleton.mp g]; exact h
  · rintro σ M1 ⟨w2, rfl, rfl, hn⟩
    rw [sl, List.take_of_length_le (Nat.le_refl _)] at hn
    rw [newS_no hn] at k
    walk_at "on"
    exact ⟨_, .refl _, k⟩

def sp__law_called (K : Kf) (n : Nat) : PSpec := fun vs M Q _ => ∃ (t : Tr) (st : List (Str × Str)), vs = [t.pv, .tup (st.map rnV)] ∧ BT n t ∧ Q (calT st t).pv M
theorem sp__law_called_len {K : Kf} {n : Nat} {vs : List PV} {M : PHp} {Q : PVK} {E : PXK} (h : sp__law_called K n vs M Q E) : vs.length = 2 := by
  obtain ⟨_, _, rfl, _⟩ := h; rfl
theorem sp__law_called_zero {K : Kf} {vs : List PV} {M : PHp} {Q : PVK} {E : PXK} (h : sp__law_called K 0 vs M Q E) : False := by
  obtain ⟨_, _, rfl, h, _⟩ := h; cases h

theorem ok__law_called {P : Program} {w : World} {K : Kf} {mg : Str → Option Value} {base : Heap} (h0 : Here K mg "_law_called" s__law_called ["tree", "steps"]) (T : Blt mg) (Z : Zc K mg) (XC : Xc K mg) (Su : Sure P base) (C__law_new : Callee P w K mg base 34 "_law_new" ["name", "steps"] (sp__law_new K)) : ∀ n : Nat, Callee P w K mg base (35 + n) "_law_called" ["tree", "steps"] (sp__law_called K n)
  | 0 => (Callee.never (k := 34) h0 sc__law_called).imp fun _ _ _ _ h => (sp__law_called_zero h).elim
  | n + 1 => by
    have C__law_called := ok__law_called (P := P) (w := w) (base := base) h0 T Z XC Su C__law_new n
    have z_Derivation_start : FldOk K (clsA K "Derivation") "start" := ⟨Z.cls_Derivation, Z.f_Derivation_start⟩
    have z_Derivation_end : FldOk K (clsA K "Derivation") "end" := ⟨Z.cls_Derivation, Z.f_Derivation_end⟩
    have z_Derivation_steps : FldOk K (clsA K "Derivation") "steps" := ⟨Z.cls_Derivation, Z.f_Derivation_steps⟩
    have z_Derivation_back : FldOk K (clsA K "Derivation") "back" := ⟨Z.cls_Derivation, Z.f_Derivation_back⟩
    have z_Derivation__stage_rows : FldOk K (clsA K "Derivation") "_stage_rows" := ⟨Z.cls_Derivation, Z.f_Derivation__stage_rows⟩
    have z_Draft_start : FldOk K (clsA K "Draft") "start" := ⟨Z.cls_Draft, Z.f_Draft_start⟩
    have z_Draft_game : FldOk K (clsA K "Draft") "game" := ⟨Z.cls_Draft, Z.f_Draft_game⟩
    have z_Draft__done_steps : FldOk K (clsA K "Draft") "_done_steps" := ⟨Z.cls_Draft, Z.f_Draft__done_steps⟩
    have z_Draft__back_steps : FldOk K (clsA K "Draft") "_back_steps" := ⟨Z.cls_Draft, Z.f_Draft__back_steps⟩
    have z_Draft__rows_so_far : FldOk K (clsA K "Draft") "_rows_so_far" := ⟨Z.cls_Draft, Z.f_Draft__rows_so_far⟩
    refine ok_of (k := 35 + n) h0 sc__law_called (fun vs M Q E h => sp__law_called_len h) (fun f cdv A outer s H E hr => ⟨_, (psscons (psif (ptval (pcallB (cIsiK (K := K)) (by rfl) T.b_isinstance (by decide +kernel) (pacons (pv 0) (pacons (pbltn (p := .ty "str") (v := .ty "str") (by rfl) T.b_str (by decide +kernel) rfl (fun _ => .ty _)) panil)))) (pssone (psret (pv 0))) pssnil)
      (pssone (psret (ptup (pacons (pcall C__law_new (by exact hr.mono (by first | decide | omega)) (pacons (pixK (K := K) (pv 0) pinT) (pacons (pv 1) panil))) (pacons (pcallTy (cTupleK (K := K)) (by rfl) T.b_tuple (by decide +kernel) (pacons (plcP  rfl sc__law_called.nd (piseqK (K := K) (pixK (K := K) (pv 0) pinT)) (blkOk_by (own := [("child", 2)]) (N := ["tree", "steps", "child"]) (sc := defScope s__law_called) (by decide +kernel)) (tgName (by decide)) (fun _ _ _ _ _ => (pg_name (i := 2) sc__law_called.nd rfl (by first | exact Or.inl rfl | exact Or.inr rfl))) (fun _ _ _ _ _ => (pcall C__law_called (by exact hr.mono (by first | decide | omega)) (pacons (pv 2) (pacons (pv 1) panil))))) panil)) panil)))))), fun vs M Q Ep h => ?_⟩)
    obtain ⟨t, st, rfl, hb, k⟩ := h
    cases hb with
    | leaf =>
      rw [calT_leaf] at k
      walk_at "go"
      exact ⟨_, .refl _, k⟩
    | @node _ n' cs hl hc =>
      have pl : (Tr.pvs cs).length = cs.length := pvs_len
      rw [calT_node] at k
      have kv : (Tr.node (newS st n') (cs.map (calT st))).pv = .tup [.str (newS st n'), .tup (cs.map fun c => (calT st c).pv)] := by
        show PV.tup [.str _, .tup (Tr.pvs _)] = _
        rw [Tr.pvs_map, List.map_map]; rfl
      rw [kv] at k
      walk_at "go"
      refine ⟨n', st, rfl, ?_⟩
      walk_at "on"
      refine ⟨fun i => (calT st (cs.getD i (.leaf n'))).pv, by omega, fun _ _ => trivial, fun i z M2 Q2 hz sb k3 => ?_, fun Dl l hD hl2 => ?_⟩
      · obtain ⟨c, hc2, rfl⟩ := kid_of hz
        refine ⟨_, rfl, ?_⟩
        simp only [getD_at hc2] at k3
        walk_at "on"
        exact ⟨c, st, rfl, hc c (List.mem_of_getElem? hc2), k3 _ (.refl _)⟩
      rw [pl, mk_list cs (.leaf n') (fun c => (calT st c).pv)] at hl2
      subst hl2
      walk_at "on"
      exact ⟨M, .new hD, k⟩
  
def sp__law_renames (K : Kf) : PSpec := fun vs M Q _ => ∃ (hs gs : List Row) (ht gt : PV), vs = [.tup [rowsV hs, ht], .tup [rowsV gs, gt]] ∧ (namesOf gs).Nodup ∧ hs.length + gs.length ≤ 30 ∧ Q (.tup ((stA (namesOf hs) (namesOf gs) gs.length).1.map rnV)) M
theorem sp__law_renames_len {K : Kf} {vs : List PV} {M : PHp} {Q : PVK} {E : PXK} (h : sp__law_renames K vs M Q E) : vs.length = 2 := by
  obtain ⟨_, _, _, _, rfl, _⟩ := h; rfl
theorem st_at {us : List Str} {i : Nat} {p : PV} (h : (us.map PV.str)[i]? = some p) : ∃ x, us[i]? = some x ∧ p = .str x := by
  rw [List.getElem?_map] at h
  cases e : us[i]? with
  | none => rw [e] at h; cases h
  | some z => rw [e] at h; exact ⟨z, rfl, (Option.some.inj h).symm⟩

theorem ok__law_renames {P : Program} {w : World} {K : Kf} {mg : Str → Option Value} {base : Heap} (h0 : Here K mg "_law_renames" s__law_renames ["host", "guest"]) (T : Blt mg) (Z : Zc K mg) (XC : Xc K mg) (Su : Sure P base)  : Callee P w K mg base 34 "_law_renames" ["host", "guest"] (sp__law_renames K) := by
  have z_Derivation_start : FldOk K (clsA K "Derivation") "start" := ⟨Z.cls_Derivation, Z.f_Derivation_start⟩
  have z_Derivation_end : FldOk K (clsA K "Derivation") "end" := ⟨Z.cls_Derivation, Z.f_Derivation_end⟩
  have z_Derivation_steps : FldOk K (clsA K "Derivation") "steps" := ⟨Z.cls_Derivation, Z.f_Derivation_steps⟩
  have z_Derivation_back : FldOk K (clsA K "Derivation") "back" := ⟨Z.cls_Derivation, Z.f_Derivation_back⟩
  have z_Derivation__stage_rows : FldOk K (clsA K "Derivation") "_stage_rows" := ⟨Z.cls_Derivation, Z.f_Derivation__stage_rows⟩
  have z_Draft_start : FldOk K (clsA K "Draft") "start" := ⟨Z.cls_Draft, Z.f_Draft_start⟩
  have z_Draft_game : FldOk K (clsA K "Draft") "game" := ⟨Z.cls_Draft, Z.f_Draft_game⟩
  have z_Draft__done_steps : FldOk K (clsA K "Draft") "_done_steps" := ⟨Z.cls_Draft, Z.f_Draft__done_steps⟩
  have z_Draft__back_steps : FldOk K (clsA K "Draft") "_back_steps" := ⟨Z.cls_Draft, Z.f_Draft__back_steps⟩
  have z_Draft__rows_so_far : FldOk K (clsA K "Draft") "_rows_so_far" := ⟨Z.cls_Draft, Z.f_Draft__rows_so_far⟩
  refine ok_of h0 sc__law_renames (fun vs M Q E h => sp__law_renames_len h) (fun f cdv A outer s H E hr => ⟨_, (psscons (psset 2 sc__law_renames.nd (plcP  rfl sc__law_renames.nd (piseqK (K := K) (pixK (K := K) (pv 0) pinT)) (blkOk_by (own := [("row", 5)]) (N := ["host", "guest", "taken", "mine", "steps", "row", "free", "k", "name"]) (sc := defScope s__law_renames) (by decide +kernel)) (tgName (by decide)) (fun _ _ _ _ _ => (pg_name (i := 5) sc__law_renames.nd rfl (by first | exact Or.inl rfl | exact Or.inr rfl))) (fun _ _ _ _ _ => (pixK (K := K) (pv 5) pinT))))
      (psscons (psset 3 sc__law_renames.nd (plcP  rfl sc__law_renames.nd (piseqK (K := K) (pixK (K := K) (pv 1) pinT)) (blkOk_by (own := [("row", 5)]) (N := ["host", "guest", "taken", "mine", "steps", "row", "free", "k", "name"]) (sc := defScope s__law_renames) (by decide +kernel)) (tgName (by decide)) (fun _ _ _ _ _ => (pg_name (i := 5) sc__law_renames.nd rfl (by first | exact Or.inl rfl | exact Or.inr rfl))) (fun _ _ _ _ _ => (pixK (K := K) (pv 5) pinT))))
      (psscons (psset 4 sc__law_renames.nd (plst panil))
      (psscons (psfor PassesOwn.never rfl (piseqK (K := K) (pixK (K := K) (pv 1) pinT)) (pgname (i := 5) sc__law_renames.nd) (pssone (psif (ptcmp (opIn (K := K)) (pixK (K := K) (pv 5) pinT) (pv 2) rfl) (psscons (pssetlcF 6  rfl sc__law_renames.nd rfl (sw_true rfl rfl rfl (by decide +kernel)) (pirng1 (by rfl) T.b_range (pacons pinT panil)) (blkOk_by (own := [("k", 7)]) (N := ["host", "guest", "taken", "mine", "steps", "row", "free", "k", "name"]) (sc := defScope s__law_renames) (by decide +kernel)) (tgName (by decide)) (fun _ _ _ _ _ => (pg_name (i := 7) sc__law_renames.nd rfl (by first | exact Or.inl rfl | exact Or.inr rfl))) (fun _ _ _ _ _ => (ptsone (ptcmp (opNotIn (K := K)) (pop opAdd pstr (pcallTy cStr (by rfl) T.b_str (by decide +kernel) (pacons (pv 7) panil))) (pop opAdd (pv 2) (pv 3)) rfl))) (fun _ _ _ _ _ => (pop opAdd pstr (pcallTy cStr (by rfl) T.b_str (by decide +kernel) (pacons (pv 7) panil)))))
      (psscons (psset 3 sc__law_renames.nd (pop opAdd (plcF  rfl sc__law_renames.nd (piseqK (K := K) (pv 3)) (blkOk_by (own := [("name", 8)]) (N := ["host", "guest", "taken", "mine", "steps", "row", "free", "k", "name"]) (sc := defScope s__law_renames) (by decide +kernel)) (tgName (by decide)) (fun _ _ _ _ _ => (pg_name (i := 8) sc__law_renames.nd rfl (by first | exact Or.inl rfl | exact Or.inr rfl))) (fun _ _ _ _ _ => (ptsone (ptcmp (opNeK (K := K) (by exact hr.units)) (pv 8) (pixK (K := K) (pv 5) pinT) (nomark _)))) (fun _ _ _ _ _ => (pv 8))) (plst (pacons (pixK (K := K) (pv 6) pinT) panil))))
      (pssone (psexpr (pbmK (K := K) PySem.F.plainAttrs_list PySem.F.slot_list_append PySem.F.type_list_append mAppend (pv 4) (pacons (ptup (pacons pstr (pacons (pixK (K := K) (pv 5) pinT) (pacons (pixK (K := K) (pv 6) pinT) panil)))) panil)))))) pssnil)))
      (pssone (psret (pcallTy (cTupleK (K := K)) (by rfl) T.b_tuple (by decide +kernel) (pacons (pv 4) panil)))))))), fun vs M Q Ep h => ?_⟩)
  obtain ⟨hs, gs, ht, gt, rfl, gnd, le, k⟩ := h
  have h0 : Hd [] M M [] := .start
  have hl : (hs.map Row.pv).length = hs.length := List.length_map _
  have gl : (gs.map Row.pv).length = gs.length := List.length_map _
  have hnl : (namesOf hs).length = hs.length := List.length_map _
  have gnl : (namesOf gs).length = gs.length := List.length_map _
  walk_at "go"
  refine ⟨fun i => .str (hs.getD i r0).nm, by omega, fun _ _ => trivial, fun i z M2 Q2 hz sb k3 => ?_, fun Dl l hD hl2 => ?_⟩
  · obtain ⟨r, hr, rfl⟩ := row_at hz
    refine ⟨_, rfl, ?_⟩
    simp only [getD_at hr] at k3
    walk_at "on"
    exact k3 _ (.refl _)
  rw [hl, mk_list hs r0 (fun r => PV.str r.nm), show (hs.map fun r => PV.str r.nm) = (namesOf hs).map PV.str by rw [List.map_map]; rfl] at hl2
  subst hl2
  replace h0 := h0.new (o := .lst ((namesOf hs).map PV.str)) hD
  walk_at "on"
  refine ⟨fun i => .str (gs.getD i r0).nm, by omega, fun _ _ => trivial, fun i z M2 Q2 hz sb k3 => ?_, fun Dm l hD2 hl2 => ?_⟩
  · obtain ⟨r, hr, rfl⟩ := row_at hz
    refine ⟨_, rfl, ?_⟩
    simp only [getD_at hr] at k3
    walk_at "on"
    exact k3 _ (.refl _)
  rw [gl, mk_list gs r0 (fun r => PV.str r.nm), show (gs.map fun r => PV.str r.nm) = (namesOf gs).map PV.str by rw [List.map_map]; rfl] at hl2
  subst hl2
  replace h0 := h0.new (o := .lst ((namesOf gs).map PV.str)) hD2
  clear hD hD2
  walk_at "on"
  refine ald h0 fun st hst h0 => ?_
  replace h0 := h0 (.lst [])
  walk_at "on"
  refine ⟨fun i σ M' => ∃ (Dm : Addr) (w5 w6 w7 w8 : Option PV), σ = [some (.tup [rowsV hs, ht]), some (.tup [rowsV gs, gt]), some (.ref Dl), some (.ref Dm), some (.ref st), w5, w6, w7, w8] ∧ Hd [] M M' [(st, .lst ((stA (namesOf hs) (namesOf gs) i).1.map rnV)), (Dm, .lst ((stA (namesOf hs) (namesOf gs) i).2.map PV.str)), (Dl, .lst ((namesOf hs).map PV.str))], ⟨_, _, by walk_at "subs", .refl _, Dm, _, _, _, _, rfl, h0⟩, ?_, ?_, ?_⟩
  · intros; trivial
  · clear h0 hst
    rintro i z σ M1 hz ⟨Dm, w5, w6, w7, w8, rfl, h0⟩
    obtain ⟨row, hr, rfl⟩ := row_at hz
    have hi := lt_of_get hr
    have hni : (namesOf gs)[i]? = some row.nm := by rw [namesOf, List.getElem?_map, hr]; rfl
    have a := InA.at (taken := namesOf hs) (names := namesOf gs) gnd (by omega) i (by omega)
    obtain ⟨_, hx0, hs0, _, ll⟩ := InA.next gnd (by omega) hni a
    have es := stA_succ (taken := namesOf hs) hni
    have asl := a.sl
    have aml := a.ml
    have hdl := h0.get 2 rfl
    walk_at "on"
    refine br_dec (fun h => ?_) (fun h => ?_)
    · rw [goA, if_pos h] at es
      generalize hmn : (stA (namesOf hs) (namesOf gs) i).2 = mine at es h0 ll aml
      generalize (stA (namesOf hs) (namesOf gs) i).1 = sti at es h0 asl
      have ml : (mine.map PV.str).length = mine.length := List.length_map _
      have tl : ((namesOf hs).map PV.str).length = (namesOf hs).length := List.length_map _
      walk_at "on"
      refine ⟨by omega, ?_⟩
      refine ⟨fun i => !decide (frS i ∈ namesOf hs ++ mine), fun i => .str (frS i), by decide, fun _ _ => trivial, fun j z M4 Q3 hz sb4 k3 => ?_, fun j z M4 Q3 hz hb sb4 k3 => ?_, fun D2 l2 hD2 hl2 => ?_⟩
      · obtain ⟨hj, rfl⟩ := rng_get hz
        have hj : j < 40 := hj
        dsimp only at k3
        rw [show (0 : Int) + (j : Int) = (j : Int) by omega]
        refine ⟨_, rfl, ?_⟩
        have hdl := sb4 _ _ (h0.get 2 rfl)
        have hdm := sb4 _ _ (h0.get 1 rfl)
        walk_at "on"
        refine ⟨by simp; exact Nat.lt_of_le_of_lt (Nat.log2_le_self j) (by omega), ?_⟩
        walk_at "on"
        refine ⟨app_len (n := 1) (m := 3) (by decide) (num_len j (by omega)) (by decide), ?_⟩
        walk_at "on"
        refine ⟨_, _, hdl, hdm, by rw [ml, tl, sizeLine_eq]; omega, fun p hp => ?_⟩
        rw [← List.map_append]
        have hpp : updM M4 p (.lst ((namesOf hs ++ mine).map PV.str)) p = some (.lst ((namesOf hs ++ mine).map PV.str)) := updM_same
        walk_at "on"
        exact k3 _ (.new hp)
      · obtain ⟨hj, rfl⟩ := rng_get hz
        have hj : j < 40 := hj
        dsimp only at k3
        rw [show (0 : Int) + (j : Int) = (j : Int) by omega]
        refine ⟨_, rfl, ?_⟩
        walk_at "on"
        refine ⟨by simp; exact Nat.lt_of_le_of_lt (Nat.log2_le_self j) (by omega), ?_⟩
        walk_at "on"
        refine ⟨app_len (n := 1) (m := 3) (by decide) (num_len j (by omega)) (by decide), ?_⟩
        exact k3 _ (.refl _)
      have hl2 : l2 = (fl (namesOf hs ++ mine) 40).map PV.str := by
        rw [hl2, rng_len]
        unfold fl
        rw [List.filter_map, List.map_map]
        rfl
      obtain ⟨fr, hfr⟩ := free1_of ll
      rw [hfr] at hl2
      generalize free1 (namesOf hs ++ mine) = y at es hl2
      subst hl2
      replace h0 := h0.new (o := .lst ((y :: fr).map PV.str)) hD2
      have hm2 := h0.get 2 rfl
      have hat : atI ((y :: fr).map PV.str) 0 = some (.str y) := atI_nat (j := 0) rfl
      walk_at "on"
      refine ⟨fun i => !decide (mine.getD i row.nm = row.nm), fun i => .str (mine.getD i row.nm), by rw [ml]; omega, fun M4 sb4 => .inl (sb4 _ _ hm2), fun j z M4 Q3 hz sb4 k3 => ?_, fun j z M4 Q3 hz hb sb4 k3 => ?_, fun D3 l3 hD3 hl3 => ?_⟩
      · obtain ⟨x, hx, rfl⟩ := st_at hz
        dsimp only at k3
        rw [show mine.getD j row.nm = x from getD_at hx] at k3
        refine ⟨_, rfl, ?_⟩
        walk_at "on"
        exact k3 _ (.refl _)
      · obtain ⟨x, hx, rfl⟩ := st_at hz
        dsimp only at k3
        rw [show mine.getD j row.nm = x from getD_at hx] at k3
        refine ⟨_, rfl, ?_⟩
        walk_at "on"
        exact k3 _ (.refl _)
      rw [ml, flt_list mine row.nm (fun x => !decide (x = row.nm)) PV.str] at hl3
      subst hl3
      replace h0 := h0.new (o := .lst ((mine.filter fun x => !decide (x = row.nm)).map PV.str)) hD3
      have hm3 := h0.get 1 rfl
      have fll : (mine.filter fun x => !decide (x = row.nm)).length ≤ mine.length := List.length_filter_le _ _
      clear hl2
      walk_at "on"
      refine ald h0 fun p hp h0 => ?_
      replace h0 := h0 (.lst [.str y])
      walk_at "on"
      refine ⟨_, _, h0.get 1 rfl, h0.get 0 rfl, by rw [List.length_map, List.length_singleton, sizeLine_eq]; omega, fun p2 hp2 => ?_⟩
      rw [show (mine.filter fun x => !decide (x = row.nm)).map PV.str ++ [PV.str y] = ((mine.filter fun x => !decide (x = row.nm)) ++ [y]).map PV.str by rw [List.map_append]; rfl]
      replace h0 := h0.new (o := .lst (((mine.filter fun x => !decide (x = row.nm)) ++ [y]).map PV.str)) hp2
      have hst := h0.get 4 rfl
      have hm4 := h0.get 3 rfl
      walk_at "on"
      refine ⟨_, hst, by rw [List.length_map, sizeLine_eq]; omega, ?_⟩
      rw [show sti.map rnV ++ [PV.tup [.str "rename", .str row.nm, .str y]] = (sti ++ [(row.nm, y)]).map rnV by rw [List.map_append]; rfl]
      replace h0 := h0.seti 4 rfl (o' := .lst ((sti ++ [(row.nm, y)]).map rnV))
      refine ⟨_, _, by walk_at "subs", .refl _, p2, _, _, _, _, rfl, ?_⟩
      rw [es]
      exact h0.sel (L' := [(st, .lst ((sti ++ [(row.nm, y)]).map rnV)), (p2, .lst (((mine.filter fun x => !decide (x = row.nm)) ++ [y]).map PV.str)), (Dl, .lst ((namesOf hs).map PV.str))]) [4, 0, 6] (by decide) rfl
    · rw [goA, if_neg h] at es
      exact ⟨_, _, by walk_at "subs", .refl _, Dm, _, _, _, _, rfl, by rw [es]; exact h0⟩
  · clear h0 hst
    rintro σ M1 ⟨Dm, w5, w6, w7, w8, rfl, h0⟩
    rw [gl] at h0
    walk_at "on"
    exact ⟨_, h0.sub, k⟩

theorem PlD.txt : ∀ {n : Nat} {x : PV}, PlD n x → TxtD n x
  | _, _, .int _ => .int _
  | _, _, .str _ => .str _
  | _, _, .tup hl h => .tup (by omega) fun x hx => (h x hx).txt
theorem BT.pl : ∀ {n : Nat} {t : Tr}, BT n t → PlD (2 * n) t.pv
  | n + 1, .leaf x, .leaf => .str _
  | n + 1, .node x cs, .node hl hc => by
    show PlD (2 * n + 1 + 1) (.tup [.str x, .tup (Tr.pvs cs)])
    refine .tup (by show 2 ≤ 1000000; decide) fun z hz => ?_
    rcases List.mem_cons.mp hz with rfl | hz
    · exact .str _
    · rw [List.mem_singleton.mp hz, Tr.pvs_map]
      refine .tup (by rw [List.length_map]; omega) fun y hy => ?_
      obtain ⟨c, hcm, rfl⟩ := List.mem_map.mp hy
      exact BT.pl (hc c hcm)
theorem Row.pl {r : Row} (h : r.ws.length ≤ 1000) : PlD 3 r.pv := by
  refine .tup (by show 3 ≤ 1000000; decide) fun z hz => ?_
  rcases List.mem_cons.mp hz with rfl | hz
  · exact .str _
  rcases List.mem_cons.mp hz with rfl | hz
  · exact .int _
  rw [List.mem_singleton.mp hz]
  exact PlD.ints (by omega)
theorem game_pl {rs : List Row} {t : Tr} {n : Nat} (h1 : rs.length ≤ 1000) (h2 : ∀ r ∈ rs, r.ws.length ≤ 1000) (h3 : BT n t) (hn : n + 2 ≤ 21) : PlD 40 (gameV rs t) := by
  refine .tup (by show 2 ≤ 1000000; decide) fun z hz => ?_
  rcases List.mem_cons.mp hz with rfl | hz
  · refine PlD.mono (.tup (n := 3) (by rw [List.length_map]; omega) fun y hy => ?_) (by decide)
    obtain ⟨r, hr, rfl⟩ := List.mem_map.mp hy
    exact r.pl (h2 r hr)
  · rw [List.mem_singleton.mp hz]
    exact h3.pl.mono (by omega)
theorem rn_pl {st : List (Str × Str)} (h : st.length ≤ 1000) : PlD 40 (.tup (st.map rnV)) := by
  refine .tup (by rw [List.length_map]; omega) fun z hz => ?_
  obtain ⟨q, _, rfl⟩ := List.mem_map.mp hz
  refine .tup (by show 3 ≤ 1000000; decide) fun y hy => ?_
  rcases List.mem_cons.mp hy with rfl | hy
  · exact .str _
  rcases List.mem_cons.mp hy with rfl | hy
  · exact .str _
  rw [List.mem_singleton.mp hy]; exact .str _
structure G51 (us : List Str) (rs : List Row) (t : Tr) (k : Nat) : Prop where
  tok : TOk us rs t
  sn : SortedN rs
  nm : ∀ r ∈ rs, r.nm.length ≤ 1000
  w1 : ∀ r ∈ rs, 1 ≤ r.ws.length
  w4 : ∀ r ∈ rs, r.ws.length ≤ 4
  le : rs.length ≤ k
theorem G51.bt {us : List Str} {rs : List Row} {t : Tr} {k : Nat} (g : G51 us rs t k) : BT (k + 1) t := g.tok.bt (fun r hr => by have := g.w4 r hr; omega) (by have := g.le; omega)
theorem G51.pl {us : List Str} {rs : List Row} {t : Tr} {k : Nat} (g : G51 us rs t k) (h : k ≤ 18) : PlD 40 (gameV rs t) := game_pl (by have := g.le; omega) (fun r hr => by have := g.w4 r hr; omega) g.bt (by omega)
def sp__law_refused (K : Kf) : PSpec := fun vs M Q _ => ∃ (hs gs : List Row) (ht gt : Tr) (us vs' : List Str) (k k' : Nat) (o : Str), vs = [gameV hs ht, .str o, gameV gs gt] ∧ G51 us hs ht k ∧ G51 vs' gs gt k' ∧ k ≤ 16 ∧ k' ≤ 16 ∧ (∃ n, n ∈ namesOf gs ∧ n ∈ namesOf hs) ∧ ∀ M', Sub M M' → Q (.bl true) M'
theorem sp__law_refused_len {K : Kf} {vs : List PV} {M : PHp} {Q : PVK} {E : PXK} (h : sp__law_refused K vs M Q E) : vs.length = 3 := by
  obtain ⟨_, _, _, _, _, _, _, _, _, rfl, _⟩ := h; rfl

theorem ok__law_refused {P : Program} {w : World} {K : Kf} {mg : Str → Option Value} {base : Heap} (h0 : Here K mg "_law_refused" s__law_refused ["host", "outcome", "guest"]) (T : Blt mg) (Z : Zc K mg) (XC : Xc K mg) (Su : Sure P base) (C_substitute : CalleeR (L2.CX P w) P w K mg base 52 "substitute" ["host", "outcome", "guest"] (sp_substitute K)) : Callee P w K mg base 53 "_law_refused" ["host", "outcome", "guest"] (sp__law_refused K) := by
  have z_Derivation_start : FldOk K (clsA K "Derivation") "start" := ⟨Z.cls_Derivation, Z.f_Derivation_start⟩
  have z_Derivation_end : FldOk K (clsA K "Derivation") "end" := ⟨Z.cls_Derivation, Z.f_Derivation_end⟩
  have z_Derivation_steps : FldOk K (clsA K "Derivation") "steps" := ⟨Z.cls_Derivation, Z.f_Derivation_steps⟩
  have z_Derivation_back : FldOk K (clsA K "Derivation") "back" := ⟨Z.cls_Derivation, Z.f_Derivation_back⟩
  have z_Derivation__stage_rows : FldOk K (clsA K "Derivation") "_stage_rows" := ⟨Z.cls_Derivation, Z.f_Derivation__stage_rows⟩
  have z_Draft_start : FldOk K (clsA K "Draft") "start" := ⟨Z.cls_Draft, Z.f_Draft_start⟩
  have z_Draft_game : FldOk K (clsA K "Draft") "game" := ⟨Z.cls_Draft, Z.f_Draft_game⟩
  have z_Draft__done_steps : FldOk K (clsA K "Draft") "_done_steps" := ⟨Z.cls_Draft, Z.f_Draft__done_steps⟩
  have z_Draft__back_steps : FldOk K (clsA K "Draft") "_back_steps" := ⟨Z.cls_Draft, Z.f_Draft__back_steps⟩
  have z_Draft__rows_so_far : FldOk K (clsA K "Draft") "_rows_so_far" := ⟨Z.cls_Draft, Z.f_Draft__rows_so_far⟩
  refine ok_of h0 sc__law_refused (fun vs M Q E h => sp__law_refused_len h) (fun f cdv A outer s H E hr => ⟨_, (psscons (pstryas 3 rfl rfl rfl sc__law_refused.nd ⟨rfl, by decide, .inl XC.g_NamesMeet⟩ (fun H1 pw pn xe air own => (pssone (psexpr (pcallR C_substitute air (by exact hr.mono (by first | decide | omega)) (pacons (pv 0) (pacons (pv 1) (pacons (pv 2) panil)))))))
      (fun a oe cls d pn hz hv => (pssone (psret (pand (pcallB (cIsEx hz hv) (by rfl) T.b_isinstance (by decide +kernel) (pacons (pv 3) (pacons (pglobC (by rfl) XC.g_GameError) panil))) (pand (pcallB (cIsEx hz hv) (by rfl) T.b_isinstance (by decide +kernel) (pacons (pv 3) (pacons (pbltn (p := .ty "ValueError") (v := .ty "ValueError") (by rfl) T.b_ValueError (by decide +kernel) rfl (fun _ => .ty _)) panil))) (pone (pnot (pcallB (cIsEx hz hv) (by rfl) T.b_isinstance (by decide +kernel) (pacons (pv 3) (pacons (pglobC (by rfl) XC.g_BadStep) panil)))))))))))
      (pssone (psret pbl))), fun vs M Q Ep h => ?_⟩)
  obtain ⟨hs, gs, ht, gt, us, vs', kh, kg, o, rfl, h, g, kh16, kg16, cm, k⟩ := h
  have hle := h.le
  have gle := g.le
  walk_at "go"
  refine ⟨hs, gs, ht, gt, o, rfl, by omega, by omega, g.nm, fun r hr => ?_, h.bt.mono (by omega), h.sn.nodup, g.sn.nodup, fun dj => absurd cm.choose_spec.2 (dj _ cm.choose_spec.1), fun cm M' sb => ⟨XC.m_NamesMeet, fun a ha => ?_⟩⟩
  · rcases List.mem_append.mp hr with q | q
    · have := h.w4 r q; omega
    · have := g.w4 r q; omega
  walk_at "on"
  refine ⟨clsA K "NamesMeet", true, rfl, rfl, XC.e_NamesMeet, ⟨rfl, _, .ref _, XC.k_NamesMeet_GameError⟩, ?_⟩
  walk_at "on"
  refine ⟨clsA K "NamesMeet", true, rfl, rfl, XC.e_NamesMeet, ⟨rfl, _, .ty _, XC.k_NamesMeet_ValueError⟩, ?_⟩
  walk_at "on"
  refine ⟨clsA K "NamesMeet", false, rfl, rfl, XC.e_NamesMeet, ⟨rfl, _, .ref _, XC.k_NamesMeet_BadStep⟩, ?_⟩
  walk_at "on"
  exact ⟨_, .refl _, k _ sb⟩

def sp__law_set_apart (K : Kf) : PSpec := fun vs M Q _ => ∃ (hs gs : List Row) (ht gt : Tr) (us vs' : List Str) (o : Str), vs = [gameV hs ht, .str o, gameV gs gt] ∧ G51 us hs ht 7 ∧ G51 vs' gs gt 10 ∧ ∀ M', Sub M M' → Q (.bl true) M'
theorem sp__law_set_apart_len {K : Kf} {vs : List PV} {M : PHp} {Q : PVK} {E : PXK} (h : sp__law_set_apart K vs M Q E) : vs.length = 3 := by
  obtain ⟨_, _, _, _, _, _, _, rfl, _⟩ := h; rfl

theorem ok__law_set_apart {P : Program} {w : World} {K : Kf} {mg : Str → Option Value} {base : Heap} (h0 : Here K mg "_law_set_apart" s__law_set_apart ["host", "outcome", "guest"]) (T : Blt mg) (Z : Zc K mg) (XC : Xc K mg) (Su : Sure P base) (C__law_called : Callee P w K mg base 48 "_law_called" ["tree", "steps"] (sp__law_called K 13)) (C__law_new : Callee P w K mg base 34 "_law_new" ["name", "steps"] (sp__law_new K)) (C__law_plain : Callee P w K mg base 86 "_law_plain" ["answer"] (sp__law_plain K 52)) (C__law_renames : Callee P w K mg base 34 "_law_renames" ["host", "guest"] (sp__law_renames K)) (C__law_whole : Callee P w K mg base 52 "_law_whole" ["host", "outcome", "guest"] (sp__law_whole K)) (C_apart : Callee P w K mg base 51 "apart" ["host", "guest"] (sp_apart K)) (C_substitute : CalleeR (L2.CX P w) P w K mg base 52 "substitute" ["host", "outcome", "guest"] (sp_substitute K)) : Callee P w K mg base 87 "_law_set_apart" ["host", "outcome", "guest"] (sp__law_set_apart K) := by
  have z_Derivation_start : FldOk K (clsA K "Derivation") "start" := ⟨Z.cls_Derivation, Z.f_Derivation_start⟩
  have z_Derivation_end : FldOk K (clsA K "Derivation") "end" := ⟨Z.cls_Derivation, Z.f_Derivation_end⟩
  have z_Derivation_steps : FldOk K (clsA K "Derivation") "steps" := ⟨Z.cls_Derivation, Z.f_Derivation_steps⟩
  have z_Derivation_back : FldOk K (clsA K "Derivation") "back" := ⟨Z.cls_Derivation, Z.f_Derivation_back⟩
  have z_Derivation__stage_rows : FldOk K (clsA K "Derivation") "_stage_rows" := ⟨Z.cls_Derivation, Z.f_Derivation__stage_rows⟩
  have z_Draft_start : FldOk K (clsA K "Draft") "start" := ⟨Z.cls_Draft, Z.f_Draft_start⟩
  have z_Draft_game : FldOk K (clsA K "Draft") "game" := ⟨Z.cls_Draft, Z.f_Draft_game⟩
  have z_Draft__done_steps : FldOk K (clsA K "Draft") "_done_steps" := ⟨Z.cls_Draft, Z.f_Draft__done_steps⟩
  have z_Draft__back_steps : FldOk K (clsA K "Draft") "_back_steps" := ⟨Z.cls_Draft, Z.f_Draft__back_steps⟩
  have z_Draft__rows_so_far : FldOk K (clsA K "Draft") "_rows_so_far" := ⟨Z.cls_Draft, Z.f_Draft__rows_so_far⟩
  refine ok_of h0 sc__law_set_apart (fun vs M Q E h => sp__law_set_apart_len h) (fun f cdv A outer s H E hr => ⟨_, (psscons (psset 3 sc__law_set_apart.nd (pcall C__law_renames (by exact hr.mono (by first | decide | omega)) (pacons (pv 0) (pacons (pv 2) panil))))
      (psscons (psset 4 sc__law_set_apart.nd (ptup (pacons (pcallTy (cTupleK (K := K)) (by rfl) T.b_tuple (by decide +kernel) (pacons (pcallB (cSortDK (K := K) (by exact hr.units)) (by rfl) T.b_sorted (by decide +kernel) (pacons (plcP  rfl sc__law_set_apart.nd (piseqK (K := K) (pixK (K := K) (pv 2) pinT)) (blkOk_by (own := [("row", 6)]) (N := ["host", "outcome", "guest", "due", "end", "told", "row"]) (sc := defScope s__law_set_apart) (by decide +kernel)) (tgName (by decide)) (fun _ _ _ _ _ => (pg_name (i := 6) sc__law_set_apart.nd rfl (by first | exact Or.inl rfl | exact Or.inr rfl))) (fun _ _ _ _ _ => (ptup (pacons (pcall C__law_new (by exact hr.mono (by first | decide | omega)) (pacons (pixK (K := K) (pv 6) pinT) (pacons (pv 3) panil))) (pacons (pixK (K := K) (pv 6) pinT) (pacons (pixK (K := K) (pv 6) pinT) panil)))))) panil)) panil)) (pacons (pcall C__law_called (by exact hr.mono (by first | decide | omega)) (pacons (pixK (K := K) (pv 2) pinT) (pacons (pv 3) panil))) panil))))
      (psscons (psset 5 sc__law_set_apart.nd (pcall C_apart (by exact hr.mono (by first | decide | omega)) (pacons (pv 0) (pacons (pv 2) panil))))
      (psscons (psifc (PW.pt (pwor (ptnot (ptval (pcall C__law_plain (by exact hr.mono (by first | decide | omega)) (pacons (pfld (K := K) (pv 5)) panil)))) (pwor (ptcmp (opNeD (K := K) (by exact hr.units)) (pfld (K := K) (pv 5)) (pv 3) (nomark _)) (pwor1 (ptcmp (opNeD (K := K) (by exact hr.units)) (pfld (K := K) (pv 5)) (pv 2) (nomark _)))))) (pssone (psret pbl)) pssnil)
      (pssone (psret (pand (pcall C__law_plain (by exact hr.mono (by first | decide | omega)) (pacons (pfld (K := K) (pv 5)) panil)) (pand (pcmp (opEqD (K := K) (by exact hr.units)) (pfld (K := K) (pv 5)) (pv 4) (nomark _)) (pone (pcmp (opEqD (K := K) (by exact hr.units)) (pcallR0 C_substitute rfl (by exact hr.mono (by first | decide | omega)) (pacons (pv 0) (pacons (pv 1) (pacons (pv 4) panil)))) (pcall C__law_whole (by exact hr.mono (by first | decide | omega)) (pacons (pv 0) (pacons (pv 1) (pacons (pv 4) panil)))) (nomark _))))))))))), fun vs M Q Ep h => ?_⟩)
  obtain ⟨hs, gs, ht, gt, us, vs', o, rfl, h, g, k⟩ := h
  have hle := h.le
  have gle := g.le
  have gnl : (namesOf gs).length = gs.length := List.length_map _
  have hnl : (namesOf hs).length = hs.length := List.length_map _
  have gl : (gs.map Row.pv).length = gs.length := List.length_map _
  have a := InA.at (taken := namesOf hs) (names := namesOf gs) g.sn.nodup (by omega) gs.length (by omega)
  walk_at "go"
  refine ⟨hs, gs, _, _, rfl, g.sn.nodup, by omega, ?_⟩
  generalize hst : stA (namesOf hs) (namesOf gs) gs.length = z at a
  obtain ⟨st, mine⟩ := z
  have asl : st.length ≤ gs.length := a.sl
  have adn := a.dn
  have ash : ∀ q ∈ st, q.2.length ≤ 1000 := a.sh
  have end_ : (namesOf (gs.map (newR st))).Nodup := by
    have e := a.nd
    rw [namesOf, List.map_map] at *
    exact e
  have dj : ∀ n ∈ namesOf (gs.map (newR st)), n ∉ namesOf hs := fun n hn => by
    rw [namesOf, List.map_map] at hn
    obtain ⟨r, hr, rfl⟩ := List.mem_map.mp hn
    refine adn r.nm ?_
    rw [List.take_of_length_le (by omega)]
    exact List.mem_map_of_mem hr
  clear a adn
  dsimp only
  walk_at "on"
  refine ⟨fun i => (newR st (gs.getD i r0)).pv, by omega, fun _ _ => trivial, fun i z M2 Q2 hz sb k3 => ?_, fun Dl l hD hl2 => ?_⟩
  · obtain ⟨r, hr, rfl⟩ := row_at hz
    refine ⟨_, rfl, ?_⟩
    simp only [getD_at hr] at k3
    walk_at "on"
    refine ⟨r.nm, st, rfl, ?_⟩
    walk_at "on"
    exact k3 _ (.refl _)
  rw [gl, mk_list gs r0 (fun r => (newR st r).pv), show (gs.map fun r => (newR st r).pv) = (gs.map (newR st)).map Row.pv by rw [List.map_map]; rfl] at hl2
  subst hl2
  have sb1 : Sub M (updM M Dl (.lst ((gs.map (newR st)).map Row.pv))) := .new hD
  obtain ⟨qs, e2, pm, sn⟩ := sort_rows end_
  have qw : ∀ r ∈ gs.map (newR st), r.ws.length ≤ 4 := fun r hr => by
    obtain ⟨q, hq, rfl⟩ := List.mem_map.mp hr
    exact g.w4 q hq
  walk_at "on"
  refine ⟨rows_pure fun r hr => by have := qw r hr; omega, (rows_sortable _).1, (rows_sortable _).2, fun p hp => ?_⟩
  rw [e2]
  walk_at "on"
  refine ⟨gt, st, rfl, g.bt.mono (by omega), ?_⟩
  walk_at "on"
  refine ⟨hs, gs, _, gt, rfl, g.sn, fun r hr => by have := g.w4 r hr; omega, by omega, g.bt.mono (by omega), fun q qx bk sr qs2 M2 pm2 sn2 hq hq1 sb2 => ?_⟩
  rw [hst] at pm2 hq1
  dsimp only at pm2 hq1
  have eq2 := SortedN.eq (pm2.trans pm.symm) sn2 sn
  subst eq2
  replace sb2 := (sb1.trans (.new hp)).trans sb2
  clear sb1 hD hp hq hst sn2 pm2 e2
  have ql : qs2.length = gs.length := by rw [pm.length_eq, List.length_map]
  have qw2 : ∀ r ∈ qs2, r.ws.length ≤ 1000 := fun r hr => by have := qw r (pm.mem_iff.mp hr); omega
  have hbt := (g.bt.cal (st := st))
  have gp := g.pl (by decide)
  have ep : PlD 40 (gameV qs2 (calT st gt)) := game_pl (by omega) qw2 hbt (by decide)
  have rp := rn_pl (st := st) (by omega)
  have qnd := sn.nodup
  have qdj : ∀ n ∈ namesOf qs2, n ∉ namesOf hs := fun n hn => dj n ((pm.map Row.nm).mem_iff.mp hn)
  walk_at "on"
  refine ⟨fun b M3 => b = false ∧ M3 = M2, ?_, ?_⟩
  · walk_at "on"
    refine ⟨_, rfl, rp.mono (by decide), ?_⟩
    walk_at "on"
    refine ⟨rp.txt, rp.txt, fun b hb => ?_⟩
    have hb : b = false := by cases b <;> simp_all
    subst hb
    walk_at "on"
    refine ⟨gp.txt, gp.txt, fun b hb => ?_⟩
    have hb : b = false := by cases b <;> simp_all
    subst hb
    exact ⟨_, .refl _, rfl, rfl⟩
  rintro b M3 ⟨rfl, rfl⟩
  walk_at "on"
  refine ⟨_, rfl, ep.mono (by decide), ?_⟩
  walk_at "on"
  refine ⟨ep.txt, ep.txt, fun b hb => ?_⟩
  have hb : b = true := by cases b <;> simp_all
  subst hb
  have wl : ∀ r ∈ hs ++ qs2, r.ws.length ≤ 1000 := fun r hr => by
    rcases List.mem_append.mp hr with z | z
    · have := h.w4 r z; omega
    · exact qw2 r z
  have nml : ∀ r ∈ qs2, r.nm.length ≤ 1000 := fun r hr => by
    obtain ⟨q, hq, rfl⟩ := List.mem_map.mp (pm.mem_iff.mp hr)
    exact newS_len ash (g.nm q hq)
  walk_at "on"
  refine ⟨hs, qs2, ht, _, o, rfl, by omega, by omega, nml, wl, h.bt.mono (by decide), h.sn.nodup, qnd, fun _ qs3 pm3 sn3 => ?_, fun cm => absurd cm.choose_spec.2 (qdj _ cm.choose_spec.1)⟩
  walk_at "on"
  refine ⟨hs, qs2, ht, _, o, rfl, by omega, by omega, wl, h.bt.mono (by decide), h.sn.nodup, qnd, qdj, fun qs4 pm4 sn4 => ?_⟩
  have e4 := SortedN.eq (pm4.trans pm3.symm) sn4 sn3
  subst e4
  have wp : PlD 40 (gameV qs4 (subT o (calT st gt) ht)) := game_pl (n := 18) (by rw [pm3.length_eq, List.length_append]; omega) (fun r hr => wl r (pm3.mem_iff.mp hr)) (hbt.sub h.bt) (by decide)
  walk_at "on"
  refine ⟨wp.txt, wp.txt, fun b hb => ?_⟩
  have hb : b = true := by cases b <;> simp_all
  subst hb
  exact ⟨_, .refl _, k _ sb2⟩

theorem TOk.rows {us : List Str} : ∀ {rs qs : List Row} {t : Tr}, TOk us rs t → (∀ r ∈ rs, r ∈ qs) → TOk us qs t := by
  intro rs qs t h
  induction h generalizing qs with
  | leaf hx => intro _; exact .leaf hx
  | node hr hl hc ih => exact fun s => .node (s _ hr) hl fun c hcm => ih c hcm fun q hq => offN_mem.mpr ⟨s q (offN_sub hq), (offN_mem.mp hq).2⟩
theorem mk_rep {α : Type} (n : Nat) (a : α) : mk n (fun _ => a) = List.replicate n a := by
  unfold mk
  rw [List.map_const', List.length_range]
def sp__law_with_set (K : Kf) : PSpec := fun vs M Q _ => ∃ (a s : Addr) (ns : List Int) (us : List Str) (rs : List Row) (t : Tr) (x : Str) (n : Nat), vs = [.ref a, .ref s, gameV rs t, .str x] ∧ G51 us rs t n ∧ n ≤ 9 ∧ x ∉ namesOf rs ∧ x.length ≤ 1000 ∧ Env K M a s ns ∧
  ∀ qs t' M', G51 us qs t' (n + 1) → qs.length = rs.length + 1 → (∀ z, z ∈ namesOf qs ↔ z ∈ namesOf rs ∨ z = x) → Env K M' a s ns → Keep s M M' → Q (gameV qs t') M'
theorem sp__law_with_set_len {K : Kf} {vs : List PV} {M : PHp} {Q : PVK} {E : PXK} (h : sp__law_with_set K vs M Q E) : vs.length = 4 := by
  obtain ⟨_, _, _, _, _, _, _, _, rfl, _⟩ := h; rfl

theorem ok__law_with_set {P : Program} {w : World} {K : Kf} {mg : Str → Option Value} {base : Heap} (h0 : Here K mg "_law_with_set" s__law_with_set ["script", "source", "game", "name"]) (T : Blt mg) (Z : Zc K mg) (XC : Xc K mg) (Su : Sure P base) (C__law_draw : Callee P w K mg base 34 "_law_draw" ["script", "source", "limit"] (sp__law_draw K)) (C__law_ends : Callee P w K mg base 47 "_law_ends" ["tree"] (sp__law_ends K 13)) : Callee P w K mg base 48 "_law_with_set" ["script", "source", "game", "name"] (sp__law_with_set K) := by
  have z_Derivation_start : FldOk K (clsA K "Derivation") "start" := ⟨Z.cls_Derivation, Z.f_Derivation_start⟩
  have z_Derivation_end : FldOk K (clsA K "Derivation") "end" := ⟨Z.cls_Derivation, Z.f_Derivation_end⟩
  have z_Derivation_steps : FldOk K (clsA K "Derivation") "steps" := ⟨Z.cls_Derivation, Z.f_Derivation_steps⟩
  have z_Derivation_back : FldOk K (clsA K "Derivation") "back" := ⟨Z.cls_Derivation, Z.f_Derivation_back⟩
  have z_Derivation__stage_rows : FldOk K (clsA K "Derivation") "_stage_rows" := ⟨Z.cls_Derivation, Z.f_Derivation__stage_rows⟩
  have z_Draft_start : FldOk K (clsA K "Draft") "start" := ⟨Z.cls_Draft, Z.f_Draft_start⟩
  have z_Draft_game : FldOk K (clsA K "Draft") "game" := ⟨Z.cls_Draft, Z.f_Draft_game⟩
  have z_Draft__done_steps : FldOk K (clsA K "Draft") "_done_steps" := ⟨Z.cls_Draft, Z.f_Draft__done_steps⟩
  have z_Draft__back_steps : FldOk K (clsA K "Draft") "_back_steps" := ⟨Z.cls_Draft, Z.f_Draft__back_steps⟩
  have z_Draft__rows_so_far : FldOk K (clsA K "Draft") "_rows_so_far" := ⟨Z.cls_Draft, Z.f_Draft__rows_so_far⟩
  refine ok_of h0 sc__law_with_set (fun vs M Q E h => sp__law_with_set_len h) (fun f cdv A outer s H E hr => ⟨_, (psscons (psset 4 sc__law_with_set.nd (pop opAdd pinT (pcall C__law_draw (by exact hr.mono (by first | decide | omega)) (pacons (pv 0) (pacons (pv 1) (pacons pinT panil))))))
      (psscons (psset 5 sc__law_with_set.nd (ptup (pacons (pv 3) (pacons (pcall C__law_draw (by exact hr.mono (by first | decide | omega)) (pacons (pv 0) (pacons (pv 1) (pacons pinT panil)))) (pacons (pcallTy (cTupleK (K := K)) (by rfl) T.b_tuple (by decide +kernel) (pacons (plcP  rfl sc__law_with_set.nd (pirng1 (by rfl) T.b_range (pacons (pv 4) panil)) (blkOk_by (own := [("k", 7)]) (N := ["script", "source", "game", "name", "count", "row", "tree", "k"]) (sc := defScope s__law_with_set) (by decide +kernel)) (tgName (by decide)) (fun _ _ _ _ _ => (pg_name (i := 7) sc__law_with_set.nd rfl (by first | exact Or.inl rfl | exact Or.inr rfl))) (fun _ _ _ _ _ => pinT)) panil)) panil)))))
      (psscons (psset 6 sc__law_with_set.nd (pixK (K := K) (pv 2) pinT))
      (psscut (psifc (PW.pt (pwand (ptcmp (opLt (by exact hr.units0)) (pcallB (cLenK (K := K)) (by rfl) T.b_len (by decide +kernel) (pacons (pcall C__law_ends (by exact hr.mono (by first | decide | omega)) (pacons (pv 6) panil)) panil)) pinT (nomark _)) (pwand1 (ptcmp (opEqK (K := K) (by exact hr.units)) (pcall C__law_draw (by exact hr.mono (by first | decide | omega)) (pacons (pv 0) (pacons (pv 1) (pacons pinT panil)))) pinT (nomark _))))) (pssone (psset 6 sc__law_with_set.nd (ptup (pacons (pv 3) (pacons (pcallTy (cTupleK (K := K)) (by rfl) T.b_tuple (by decide +kernel) (pacons (plcP  rfl sc__law_with_set.nd (pirng1 (by rfl) T.b_range (pacons (pv 4) panil)) (blkOk_by (own := [("k", 7)]) (N := ["script", "source", "game", "name", "count", "row", "tree", "k"]) (sc := defScope s__law_with_set) (by decide +kernel)) (tgName (by decide)) (fun _ _ _ _ _ => (pg_name (i := 7) sc__law_with_set.nd rfl (by first | exact Or.inl rfl | exact Or.inr rfl))) (fun _ _ _ _ _ => (pv 6))) panil)) panil))))) pssnil)
      (pssone (psret (ptup (pacons (pcallTy (cTupleK (K := K)) (by rfl) T.b_tuple (by decide +kernel) (pacons (pcallB (cSortDK (K := K) (by exact hr.units)) (by rfl) T.b_sorted (by decide +kernel) (pacons (pop opAdd (pixK (K := K) (pv 2) pinT) (ptup (pacons (pv 5) panil))) panil)) panil)) (pacons (pv 6) panil))))))))), fun vs M Q Ep h => ?_⟩)
  obtain ⟨a, s, ns, us, rs, t, x, n, rfl, g, hn, hx, hxl, e, k⟩ := h
  have he := He.start e
  have gle := g.le
  have rl : (rs.map Row.pv).length = rs.length := List.length_map _
  walk_at "go"
  refine dr he (by decide) (by decide) fun c M1 c0 c1 he => ?_
  obtain ⟨c, rfl⟩ : ∃ m : Nat, c = (m : Int) := ⟨c.toNat, by omega⟩
  walk_at "on"
  refine dr he (by decide) (by decide) fun ow M2 o0 o1 he => ?_
  walk_at "on"
  refine ⟨by omega, ?_⟩
  refine ⟨fun _ => .int 1, by rw [rng_len]; omega, fun _ _ => trivial, fun i x M3 Q2 hx sb k3 => ⟨_, rfl, ?_⟩, fun Dl l hD hl => ?_⟩
  · walk_at "on"
    exact k3 _ (.refl _)
  have e1 : (1 + (c : Int)).toNat = c + 1 := by omega
  rw [ones_of, e1] at hl
  subst hl
  replace he := he.new (o := .lst ((List.replicate (c + 1) (1 : Int)).map PV.int)) hD
  have hdl := he.get 0 rfl
  walk_at "on"
  obtain ⟨ow, rfl⟩ : ∃ m : Nat, ow = (m : Int) := ⟨ow.toNat, by omega⟩
  have wl : (List.replicate (c + 1) (1 : Int)).length = c + 1 := List.length_replicate
  generalize hws : List.replicate (c + 1) (1 : Int) = ws at he wl
  have el : (endsT t).length ≤ 8000000 := by
    have h1 := ends_len g.tok g.w4
    have h2 : 4 ^ rs.length ≤ 4 ^ 9 := Nat.pow_le_pow_right (by omega) (by omega)
    have h3 : (4 : Nat) ^ 9 = 262144 := by decide
    omega
  refine ⟨fun σ M' => ∃ (t' : Tr) (w7 : Option PV), (t' = t ∨ t' = .node x (List.replicate (c + 1) t)) ∧ σ = [some (.ref a), some (.ref s), some (gameV rs t), some (.str x), some (.int (1 + (c : Int))), some (Row.pv ⟨x, ow, ws⟩), some t'.pv, w7] ∧ He K [] a s ns M M' [], ?_, ?_⟩
  · replace he := he.nil
    clear hdl
    walk_at "on"
    refine ⟨fun b M' => He K [] a s ns M M' [], ?_, ?_⟩
    · walk_at "on"
      refine ⟨t, rfl, g.bt.mono (by omega), el, fun l M3 hl0 hl1 sb => ?_⟩
      replace he := he.addn sb hl0 hl1
      walk_at "on"
      refine br_dec (fun h => ?_) (fun h => ?_)
      · walk_at "on"
        refine dr he (by decide) (by decide) fun d M4 d0 d1 he => ?_
        walk_at "on"
        exact ⟨_, .refl _, he.nil⟩
      · exact ⟨_, .refl _, he.nil⟩
    clear he
    intro b M3 he
    refine br_of (fun h => ?_) (fun h => ?_)
    · walk_at "on"
      refine ⟨by omega, ?_⟩
      refine ⟨fun _ => t.pv, by rw [rng_len]; omega, fun _ _ => trivial, fun i x M3 Q2 hx sb k3 => ⟨_, rfl, ?_⟩, fun D2 l hD2 hl => ?_⟩
      · walk_at "on"
        exact k3 _ (.refl _)
      have hl : l = Tr.pvs (List.replicate (c + 1) t) := by
        rw [hl, rng_len, e1, Tr.pvs_map, List.map_replicate]
        exact mk_rep _ _
      subst hl
      replace he := he.new (o := .lst (Tr.pvs (List.replicate (c + 1) t))) hD2
      have hdl := he.get 0 rfl
      walk_at "on"
      refine ⟨_, _, by walk_at "subs", .refl _, .node x (List.replicate (c + 1) t), _, .inr rfl, rfl, he.nil⟩
    · exact ⟨_, _, by walk_at "subs", .refl _, t, _, .inl rfl, rfl, he⟩
  clear he hdl
  rintro σ M3 ⟨t', w7, ht, rfl, he⟩
  walk_at "on"
  refine ⟨by rw [rl, sizeLine_eq]; simp; omega, ?_⟩
  have nd : (namesOf (rs ++ [⟨x, ow, ws⟩])).Nodup := nd_snoc g.sn.nodup hx
  rw [show rs.map Row.pv ++ [(⟨x, ow, ws⟩ : Row).pv] = (rs ++ [(⟨x, ow, ws⟩ : Row)]).map Row.pv by rw [List.map_append]; rfl]
  obtain ⟨qs, e2, pm, sn⟩ := sort_rows nd
  have qm : ∀ r ∈ rs ++ [(⟨x, ow, ws⟩ : Row)], r.nm.length ≤ 1000 ∧ 1 ≤ r.ws.length ∧ r.ws.length ≤ 4 := fun r hr => by
    rcases List.mem_append.mp hr with q | q
    · exact ⟨g.nm r q, g.w1 r q, g.w4 r q⟩
    · rw [List.mem_singleton.mp q]
      refine ⟨hxl, ?_, ?_⟩
      · show 1 ≤ ws.length; omega
      · show ws.length ≤ 4; omega
  walk_at "on"
  refine ⟨_, rfl, rows_pure fun r hr => by have := (qm r hr).2.2; omega, (rows_sortable _).1, (rows_sortable _).2, fun p hp => ?_⟩
  rw [e2]
  walk_at "on"
  have old : ∀ r ∈ rs, r ∈ qs := fun r hr => pm.mem_iff.mpr (List.mem_append_left _ hr)
  have t0 : TOk us qs t := g.tok.rows old
  have nr : (⟨x, ow, ws⟩ : Row) ∈ qs := pm.mem_iff.mpr (List.mem_append_right _ List.mem_cons_self)
  have tok : TOk us qs t' := by
    rcases ht with rfl | rfl
    · exact t0
    · refine .node (r := ⟨x, ow, ws⟩) nr (by rw [List.length_replicate]; exact wl.symm) fun d hd => ?_
      rw [(List.mem_replicate.mp hd).2]
      exact g.tok.rows fun r hr => offN_mem.mpr ⟨old r hr, fun q => hx (by have z := List.mem_map_of_mem (f := Row.nm) hr; rw [q] at z; exact z)⟩
  refine ⟨M3, .new hp, k qs t' M3 ⟨tok, sn, fun r hr => (qm r (pm.mem_iff.mp hr)).1, fun r hr => (qm r (pm.mem_iff.mp hr)).2.1, fun r hr => (qm r (pm.mem_iff.mp hr)).2.2, by rw [pm.length_eq, List.length_append, List.length_singleton]; omega⟩ (by rw [pm.length_eq, List.length_append, List.length_singleton]) (fun z => ?_) he.env he.keep⟩
  rw [(pm.map Row.nm).mem_iff, List.map_append, List.mem_append]
  exact or_congr Iff.rfl (by simp)

def sp__law_meeting (K : Kf) : PSpec := fun vs M Q _ => ∃ (a s : Addr) (ns : List Int) (us : List Str) (hs gs : List Row) (ht : PV) (gt : Tr), vs = [.ref a, .ref s, .tup [rowsV hs, ht], gameV gs gt] ∧ hs ≠ [] ∧ hs.length ≤ 1000 ∧ (∀ r ∈ hs, r.nm.length ≤ 1000) ∧ G51 us gs gt 6 ∧ Env K M a s ns ∧
  ∀ qs t' M', G51 us qs t' 10 → (∃ n, n ∈ namesOf qs ∧ n ∈ namesOf hs) → Env K M' a s ns → Keep s M M' → Q (gameV qs t') M'
theorem sp__law_meeting_len {K : Kf} {vs : List PV} {M : PHp} {Q : PVK} {E : PXK} (h : sp__law_meeting K vs M Q E) : vs.length = 4 := by
  obtain ⟨_, _, _, _, _, _, _, _, rfl, _⟩ := h; rfl
theorem G51.mono {us : List Str} {rs : List Row} {t : Tr} {k m : Nat} (g : G51 us rs t k) (h : k ≤ m) : G51 us rs t m := ⟨g.tok, g.sn, g.nm, g.w1, g.w4, by have := g.le; omega⟩

theorem ok__law_meeting {P : Program} {w : World} {K : Kf} {mg : Str → Option Value} {base : Heap} (h0 : Here K mg "_law_meeting" s__law_meeting ["script", "source", "host", "guest"]) (T : Blt mg) (Z : Zc K mg) (XC : Xc K mg) (Su : Sure P base) (C__law_draw : Callee P w K mg base 34 "_law_draw" ["script", "source", "limit"] (sp__law_draw K)) (C__law_with_set : Callee P w K mg base 48 "_law_with_set" ["script", "source", "game", "name"] (sp__law_with_set K)) : Callee P w K mg base 49 "_law_meeting" ["script", "source", "host", "guest"] (sp__law_meeting K) := by
  have z_Derivation_start : FldOk K (clsA K "Derivation") "start" := ⟨Z.cls_Derivation, Z.f_Derivation_start⟩
  have z_Derivation_end : FldOk K (clsA K "Derivation") "end" := ⟨Z.cls_Derivation, Z.f_Derivation_end⟩
  have z_Derivation_steps : FldOk K (clsA K "Derivation") "steps" := ⟨Z.cls_Derivation, Z.f_Derivation_steps⟩
  have z_Derivation_back : FldOk K (clsA K "Derivation") "back" := ⟨Z.cls_Derivation, Z.f_Derivation_back⟩
  have z_Derivation__stage_rows : FldOk K (clsA K "Derivation") "_stage_rows" := ⟨Z.cls_Derivation, Z.f_Derivation__stage_rows⟩
  have z_Draft_start : FldOk K (clsA K "Draft") "start" := ⟨Z.cls_Draft, Z.f_Draft_start⟩
  have z_Draft_game : FldOk K (clsA K "Draft") "game" := ⟨Z.cls_Draft, Z.f_Draft_game⟩
  have z_Draft__done_steps : FldOk K (clsA K "Draft") "_done_steps" := ⟨Z.cls_Draft, Z.f_Draft__done_steps⟩
  have z_Draft__back_steps : FldOk K (clsA K "Draft") "_back_steps" := ⟨Z.cls_Draft, Z.f_Draft__back_steps⟩
  have z_Draft__rows_so_far : FldOk K (clsA K "Draft") "_rows_so_far" := ⟨Z.cls_Draft, Z.f_Draft__rows_so_far⟩
  refine ok_of h0 sc__law_meeting (fun vs M Q E h => sp__law_meeting_len h) (fun f cdv A outer s H E hr => ⟨_, (psscons (pssetlc1 4 6 rfl sc__law_meeting.nd rfl (sw_true rfl rfl rfl (by decide +kernel)) (pirng1 (by rfl) T.b_range (pacons (pop opAdd pinT (pcall C__law_draw (by exact hr.mono (by first | decide | omega)) (pacons (pv 0) (pacons (pv 1) (pacons pinT panil))))) panil)) (blkOk_by (own := [("k", 6)]) (N := ["script", "source", "host", "guest", "names", "name", "k", "row"]) (sc := defScope s__law_meeting) (by decide +kernel)) (by decide) (fun _ _ _ _ _ => pg_name (i := 6) sc__law_meeting.nd rfl (Or.inl rfl)) (fun _ _ _ _ _ => ptsnil) (fun _ _ _ _ _ => (pixK (K := K) (pixK (K := K) (pixK (K := K) (pv 2) pinT) (pcall C__law_draw (by exact hr.mono (by first | decide | omega)) (pacons (pv 0) (pacons (pv 1) (pacons (pcallB (cLenK (K := K)) (by rfl) T.b_len (by decide +kernel) (pacons (pixK (K := K) (pv 2) pinT) panil)) panil))))) pinT)))
      (psscut (psif (ptcmp (opEqK (K := K) (by exact hr.units)) (pcall C__law_draw (by exact hr.mono (by first | decide | omega)) (pacons (pv 0) (pacons (pv 1) (pacons pinT panil)))) pinT (nomark _)) (pssone (psexpr (pbmK (K := K) PySem.F.plainAttrs_list PySem.F.slot_list_append PySem.F.type_list_append mAppend (pv 4) (pacons (pixK (K := K) (plst (pacons pstr (pacons pstr panil))) (pcall C__law_draw (by exact hr.mono (by first | decide | omega)) (pacons (pv 0) (pacons (pv 1) (pacons pinT panil))))) panil)))) pssnil)
      (psscons (psfor PassesOwn.never rfl (piseqK (K := K) (pv 4)) (pgname (i := 5) sc__law_meeting.nd) (pssone (psif (ptcmp (opNotIn (K := K)) (pv 5) (plcP  rfl sc__law_meeting.nd (piseqK (K := K) (pixK (K := K) (pv 3) pinT)) (blkOk_by (own := [("row", 7)]) (N := ["script", "source", "host", "guest", "names", "name", "k", "row"]) (sc := defScope s__law_meeting) (by decide +kernel)) (tgName (by decide)) (fun _ _ _ _ _ => (pg_name (i := 7) sc__law_meeting.nd rfl (by first | exact Or.inl rfl | exact Or.inr rfl))) (fun _ _ _ _ _ => (pixK (K := K) (pv 7) pinT))) rfl) (pssone (psset 3 sc__law_meeting.nd (pcall C__law_with_set (by exact hr.mono (by first | decide | omega)) (pacons (pv 0) (pacons (pv 1) (pacons (pv 3) (pacons (pv 5) panil))))))) pssnil)))
      (pssone (psret (pv 3)))))), fun vs M Q Ep h => ?_⟩)
  obtain ⟨a, s, ns, us, hs, gs, ht, gt, rfl, hne, hle, hnm, g, e, k⟩ := h
  have he := He.start e
  have hl : (hs.map Row.pv).length = hs.length := List.length_map _
  have h0 : 0 < hs.length := List.length_pos_iff.mpr hne
  walk_at "go"
  refine dr he (by decide) (by decide) fun c M1 c0 c1 he => ?_
  obtain ⟨c, rfl⟩ : ∃ m : Nat, c = (m : Int) := ⟨c.toNat, by omega⟩
  walk_at "on"
  refine ⟨by omega, ?_⟩
  refine al he fun D hD he => ?_
  refine ⟨fun i acc M' => ∃ xs : List Str, acc = xs.map PV.str ∧ xs.length = i ∧ (∀ x ∈ xs, x ∈ namesOf hs) ∧ He K [] a s ns M M' [(D, .lst acc)], ⟨_, .refl _, [], rfl, rfl, by simp, he _⟩, ?_, ?_, ?_⟩
  · intros; trivial
  · clear he
    rintro i x acc M2 hx ⟨xs, rfl, xl, hxs, he⟩
    obtain ⟨hi, rfl⟩ := rng_get hx
    walk_at "on"
    refine dr he (by omega) (bt64 (by omega)) fun d M3 d0 d1 he => ?_
    rw [hl] at d1
    obtain ⟨r, hr, hra⟩ := row_mem d0 d1
    walk_at "on"
    have hi2 : i < 1000 := by omega
    refine ⟨he.get 0 rfl, by rw [List.length_map, sizeLine_eq]; omega, _, .refl _, xs ++ [r.nm], by rw [List.map_append]; rfl, by rw [List.length_append, xl]; rfl, fun z hz => ?_, he.up0⟩
    rcases List.mem_append.mp hz with h | h
    · exact hxs z h
    · rw [List.mem_singleton.mp h]; exact List.mem_map_of_mem hr
  · clear he
    rintro acc M2 ⟨xs, rfl, xl, hxs, he⟩
    rw [rng_len] at xl
    have e1 : (1 + (c : Int)).toNat = c + 1 := by omega
    rw [e1] at xl
    have hxl : ∀ x ∈ xs, x.length ≤ 1000 := fun x hx => by
      obtain ⟨r, hr, rfl⟩ := List.mem_map.mp (hxs x hx)
      exact hnm r hr
    have hx0 : ∃ x, x ∈ xs ∧ x ∈ namesOf hs := by
      cases xs with
      | nil => simp at xl
      | cons x l => exact ⟨x, List.mem_cons_self, hxs x List.mem_cons_self⟩
    walk_at "on"
    refine ⟨fun σ M' => ∃ xs : List Str, (∃ x, x ∈ xs ∧ x ∈ namesOf hs) ∧ xs.length ≤ 4 ∧ (∀ x ∈ xs, x.length ≤ 1000) ∧ σ = [some (.ref a), some (.ref s), some (.tup [rowsV hs, ht]), some (gameV gs gt), some (.ref D), none, none, none] ∧ He K [] a s ns M M' [(D, .lst (xs.map PV.str))], ?_, ?_⟩
    · walk_at "on"
      refine dr he (by decide) (by decide) fun d M3 d0 d1 he => ?_
      walk_at "on"
      refine br_dec (fun h => ?_) (fun h => ?_)
      · walk_at "on"
        refine al he fun p2 hp2 he => ?_
        walk_at "on"
        refine dr (he _) (by decide) (by decide) fun d M4 d0 d1 he => ?_
        obtain ⟨q, hq, hqa⟩ := str_mem (us := ["m0", "m1"]) d0 d1
        walk_at "on"
        have ql : q.length ≤ 1000 := by
          have h2 : ∀ q ∈ (["m0", "m1"] : List Str), q.length ≤ 1000 := by decide +kernel
          exact h2 q hq
        refine ⟨_, he.get 1 rfl, by rw [List.length_map, sizeLine_eq]; omega, ?_⟩
        rw [show xs.map PV.str ++ [PV.str q] = (xs ++ [q]).map PV.str by rw [List.map_append]; rfl]
        obtain ⟨x0, x1, x2⟩ := hx0
        refine ⟨_, _, by walk_at "subs", .refl _, xs ++ [q], ⟨x0, List.mem_append_left _ x1, x2⟩, by rw [List.length_append, List.length_singleton]; omega, fun x hx => ?_, rfl, (he.up1 (o' := .lst ((xs ++ [q]).map PV.str))).d0⟩
        rcases List.mem_append.mp hx with z | z
        · exact hxl x z
        · rw [List.mem_singleton.mp z]; exact ql
      · exact ⟨_, _, by walk_at "subs", .refl _, xs, hx0, by omega, hxl, rfl, he⟩
    clear he
    rintro σ M3 ⟨xs, hx0, xl, hxl, rfl, he⟩
    walk_at "on"
    refine ⟨fun i σ M' => ∃ (qs : List Row) (t' : Tr) (w5 w6 w7 : Option PV), G51 us qs t' (6 + i) ∧ (∀ x ∈ xs.take i, x ∈ namesOf qs) ∧ σ = [some (.ref a), some (.ref s), some (.tup [rowsV hs, ht]), some (gameV qs t'), some (.ref D), w5, w6, w7] ∧ He K [] a s ns M M' [(D, .lst (xs.map PV.str))], ⟨_, _, by walk_at "subs", .refl _, gs, gt, _, _, _, g, by simp, rfl, he⟩, fun i σ M1 ⟨_, _, _, _, _, _, _, _, h⟩ => .inl (h.get 0 rfl), ?_, ?_⟩
    · clear he
      rintro i z σ M4 hz ⟨qs, t', w5, w6, w7, g', hq, rfl, he⟩
      obtain ⟨x, hx, rfl⟩ := st_at hz
      have hi := lt_of_get hx
      have ql : (qs.map Row.pv).length = qs.length := List.length_map _
      have qle := g'.le
      walk_at "on"
      refine ⟨fun i => .str (qs.getD i r0).nm, by omega, fun _ _ => trivial, fun i z M2 Q2 hz sb k3 => ?_, fun Dl l hD hl2 => ?_⟩
      · obtain ⟨r, hr, rfl⟩ := row_at hz
        refine ⟨_, rfl, ?_⟩
        simp only [getD_at hr] at k3
        walk_at "on"
        exact k3 _ (.refl _)
      rw [ql, mk_list qs r0 (fun r => PV.str r.nm), show (qs.map fun r => PV.str r.nm) = (namesOf qs).map PV.str by rw [List.map_map]; rfl] at hl2
      subst hl2
      replace he := he.new (o := .lst ((namesOf qs).map PV.str)) hD
      walk_at "on"
      refine br_ndec (fun h => ?_) (fun h => ?_)
      · walk_at "on"
        refine ⟨a, s, ns, us, qs, t', x, 6 + i, rfl, g', by omega, h, hxl x (List.mem_of_getElem? hx), he.env, fun q2 t2 M5 g2 _ hm e5 k5 => ?_⟩
        replace he := (he.d0).call e5 k5
        refine ⟨_, _, by walk_at "subs", .refl _, q2, t2, _, _, _, g2, fun y hy => (hm y).mpr ?_, rfl, he⟩
        rw [take_succ' hx] at hy
        rcases List.mem_append.mp hy with z | z
        · exact .inl (hq y z)
        · exact .inr (List.mem_singleton.mp z)
      · refine ⟨_, _, by walk_at "subs", .refl _, qs, t', _, _, _, g'.mono (by omega), fun y hy => ?_, rfl, he.d0⟩
        rw [take_succ' hx] at hy
        rcases List.mem_append.mp hy with z | z
        · exact hq y z
        · rw [List.mem_singleton.mp z]; exact h
    · clear he
      rintro σ M4 ⟨qs, t', w5, w6, w7, g', hq, rfl, he⟩
      rw [List.length_map, List.take_of_length_le (Nat.le_refl _)] at hq
      rw [List.length_map] at g'
      walk_at "on"
      obtain ⟨x, hx1, hx2⟩ := hx0
      exact ⟨_, .refl _, k qs t' _ (g'.mono (by omega)) ⟨x, hq x hx1, hx2⟩ he.env he.keep⟩

theorem Nm.len {x : Str} (h : Nm x) : x.length ≤ 1000 := by
  obtain ⟨c, r, e, _, _, h3⟩ := h.ex
  rw [str_len, e, List.length_cons]; omega
abbrev out7 : List Int := [2, 3, 4, 5, 2, 3, 1]
theorem out7_ok : ∀ x ∈ out7, 1 ≤ x ∧ x ≤ 5 := by decide
theorem deal0 {h0 h1 h2 l : List Row} {r : Row} (p : (h0 ++ h1 ++ h2).Perm l) : ((h0 ++ [r]) ++ h1 ++ h2).Perm (l ++ [r]) := by
  refine List.Perm.trans ?_ (p.append_right [r])
  rw [List.append_assoc, List.append_assoc, List.append_assoc, List.append_assoc, ← List.append_assoc h1]
  exact (List.perm_append_comm).append_left h0
theorem deal1 {h0 h1 h2 l : List Row} {r : Row} (p : (h0 ++ h1 ++ h2).Perm l) : (h0 ++ (h1 ++ [r]) ++ h2).Perm (l ++ [r]) := by
  refine List.Perm.trans ?_ (p.append_right [r])
  rw [← List.append_assoc, List.append_assoc (h0 ++ h1), List.append_assoc (h0 ++ h1)]
  exact (List.perm_append_comm).append_left (h0 ++ h1)
theorem deal2 {h0 h1 h2 l : List Row} {r : Row} (p : (h0 ++ h1 ++ h2).Perm l) : (h0 ++ h1 ++ (h2 ++ [r])).Perm (l ++ [r]) := by
  refine List.Perm.trans ?_ (p.append_right [r])
  rw [← List.append_assoc]
def sp__law_dealt (K : Kf) : PSpec := fun vs M Q _ => ∃ (a s : Addr) (ns : List Int), vs = [.ref a, .ref s, .int 6, .int 32, .int 3, .int 14] ∧ Env K M a s ns ∧
  ∀ l us h0 h1 h2 t0 t1 t2 M', G51 us h0 t0 6 → G51 us h1 t1 6 → G51 us h2 t2 6 → (namesOf (h0 ++ h1 ++ h2)).Nodup → (h0 ++ h1 ++ h2).length ≤ 6 → M l = none → M' l = some (.lst [gameV h0 t0, gameV h1 t1, gameV h2 t2]) → Env K M' a s ns → Keep s M M' → l ≠ s → Q (.ref l) M'
theorem sp__law_dealt_len {K : Kf} {vs : List PV} {M : PHp} {Q : PVK} {E : PXK} (h : sp__law_dealt K vs M Q E) : vs.length = 6 := by
  obtain ⟨_, _, _, rfl, _⟩ := h; rfl

theorem ok__law_dealt {P : Program} {w : World} {K : Kf} {mg : Str → Option Value} {base : Heap} (h0 : Here K mg "_law_dealt" s__law_dealt ["script", "source", "many", "most", "count", "nodes"]) (T : Blt mg) (Z : Zc K mg) (XC : Xc K mg) (Su : Sure P base) (C__law_draw : Callee P w K mg base 34 "_law_draw" ["script", "source", "limit"] (sp__law_draw K)) (C__law_name : Callee P w K mg base 35 "_law_name" ["script", "source", "used"] (sp__law_name K)) (C__law_sets : Callee P w K mg base 36 "_law_sets" ["script", "source", "many", "most"] (sp__law_sets K)) (C__law_tree : Callee P w K mg base 55 "_law_tree" ["script", "source", "free", "outcomes", "room", "wish"] (sp__law_tree K 20)) : Callee P w K mg base 56 "_law_dealt" ["script", "source", "many", "most", "count", "nodes"] (sp__law_dealt K) := by
  have z_Derivation_start : FldOk K (clsA K "Derivation") "start" := ⟨Z.cls_Derivation, Z.f_Derivation_start⟩
  have z_Derivation_end : FldOk K (clsA K "Derivation") "end" := ⟨Z.cls_Derivation, Z.f_Derivation_end⟩
  have z_Derivation_steps : FldOk K (clsA K "Derivation") "steps" := ⟨Z.cls_Derivation, Z.f_Derivation_steps⟩
  have z_Derivation_back : FldOk K (clsA K "Derivation") "back" := ⟨Z.cls_Derivation, Z.f_Derivation_back⟩
  have z_Derivation__stage_rows : FldOk K (clsA K "Derivation") "_stage_rows" := ⟨Z.cls_Derivation, Z.f_Derivation__stage_rows⟩
  have z_Draft_start : FldOk K (clsA K "Draft") "start" := ⟨Z.cls_Draft, Z.f_Draft_start⟩
  have z_Draft_game : FldOk K (clsA K "Draft") "game" := ⟨Z.cls_Draft, Z.f_Draft_game⟩
  have z_Draft__done_steps : FldOk K (clsA K "Draft") "_done_steps" := ⟨Z.cls_Draft, Z.f_Draft__done_steps⟩
  have z_Draft__back_steps : FldOk K (clsA K "Draft") "_back_steps" := ⟨Z.cls_Draft, Z.f_Draft__back_steps⟩
  have z_Draft__rows_so_far : FldOk K (clsA K "Draft") "_rows_so_far" := ⟨Z.cls_Draft, Z.f_Draft__rows_so_far⟩
  refine ok_of h0 sc__law_dealt (fun vs M Q E h => sp__law_dealt_len h) (fun f cdv A outer s H E hr => ⟨_, (psscons (psset 6 sc__law_dealt.nd (pcall C__law_sets (by exact hr.mono (by first | decide | omega)) (pacons (pv 0) (pacons (pv 1) (pacons (pv 2) (pacons (pv 3) panil))))))
      (psscons (pssetlc1 7 10 rfl sc__law_dealt.nd rfl (sw_true rfl rfl rfl (by decide +kernel)) (pirng1 (by rfl) T.b_range (pacons (pv 4) panil)) (blkOk_by (own := [("k", 10)]) (N := ["script", "source", "many", "most", "count", "nodes", "rows", "hands", "row", "outcomes", "k", "games", "hand", "top"]) (sc := defScope s__law_dealt) (by decide +kernel)) (by decide) (fun _ _ _ _ _ => pg_name (i := 10) sc__law_dealt.nd rfl (Or.inl rfl)) (fun _ _ _ _ _ => ptsnil) (fun _ _ _ _ _ => (plst panil)))
      (psscons (psfor PassesOwn.never rfl (piseqK (K := K) (pv 6)) (pgname (i := 8) sc__law_dealt.nd) (pssone (psexpr (pbmK (K := K) PySem.F.plainAttrs_list PySem.F.slot_list_append PySem.F.type_list_append mAppend (pixK (K := K) (pv 7) (pcall C__law_draw (by exact hr.mono (by first | decide | omega)) (pacons (pv 0) (pacons (pv 1) (pacons (pv 4) panil))))) (pacons (pv 8) panil)))))
      (psscons (psset 9 sc__law_dealt.nd (plst panil))
      (psscons (psfor PassesOwn.never rfl (pirng1 (by rfl) T.b_range (pacons (pixK (K := K) (plst (pacons pinT (pacons pinT (pacons pinT (pacons pinT (pacons pinT (pacons pinT (pacons pinT panil)))))))) (pcall C__law_draw (by exact hr.mono (by first | decide | omega)) (pacons (pv 0) (pacons (pv 1) (pacons pinT panil))))) panil)) (pgname (i := 10) sc__law_dealt.nd) (pssone (psexpr (pbmK (K := K) PySem.F.plainAttrs_list PySem.F.slot_list_append PySem.F.type_list_append mAppend (pv 9) (pacons (pcall C__law_name (by exact hr.mono (by first | decide | omega)) (pacons (pv 0) (pacons (pv 1) (pacons (pv 9) panil)))) panil)))))
      (psscut (psifc (PW.pt (pwand (ptcmp opGt (pcallB (cLenK (K := K)) (by rfl) T.b_len (by decide +kernel) (pacons (pv 6) panil)) pinT (nomark _)) (pwand1 (ptcmp (opEqK (K := K) (by exact hr.units)) (pcall C__law_draw (by exact hr.mono (by first | decide | omega)) (pacons (pv 0) (pacons (pv 1) (pacons pinT panil)))) pinT (nomark _))))) (pssone (psexpr (pbmK (K := K) PySem.F.plainAttrs_list PySem.F.slot_list_append PySem.F.type_list_append mAppend (pv 9) (pacons (pixK (K := K) (pixK (K := K) (pv 6) (pcall C__law_draw (by exact hr.mono (by first | decide | omega)) (pacons (pv 0) (pacons (pv 1) (pacons (pcallB (cLenK (K := K)) (by rfl) T.b_len (by decide +kernel) (pacons (pv 6) panil)) panil))))) pinT) panil)))) pssnil)
      (psscons (psset 11 sc__law_dealt.nd (plst panil))
      (psscons (psfor PassesOwn.never rfl (piseqK (K := K) (pv 7)) (pgname (i := 12) sc__law_dealt.nd) (psscons (psset 13 sc__law_dealt.nd pnon)
      (psscut (psifc (PW.pt (pwand (ptcmp opGt (pcallB (cLenK (K := K)) (by rfl) T.b_len (by decide +kernel) (pacons (pv 12) panil)) pinT (nomark _)) (pwand1 (ptcmp opGt (pcall C__law_draw (by exact hr.mono (by first | decide | omega)) (pacons (pv 0) (pacons (pv 1) (pacons pinT panil)))) pinT (nomark _))))) (pssone (psset 13 sc__law_dealt.nd (pixK (K := K) (pv 12) (pcall C__law_draw (by exact hr.mono (by first | decide | omega)) (pacons (pv 0) (pacons (pv 1) (pacons (pcallB (cLenK (K := K)) (by rfl) T.b_len (by decide +kernel) (pacons (pv 12) panil)) panil))))))) pssnil)
      (pssone (psexpr (pbmK (K := K) PySem.F.plainAttrs_list PySem.F.slot_list_append PySem.F.type_list_append mAppend (pv 11) (pacons (ptup (pacons (pcallTy (cTupleK (K := K)) (by rfl) T.b_tuple (by decide +kernel) (pacons (pv 12) panil)) (pacons (pcall C__law_tree (by exact hr.mono (by first | decide | omega)) (pacons (pv 0) (pacons (pv 1) (pacons (pv 12) (pacons (pv 9) (pacons (plst (pacons (pv 5) panil)) (pacons (pv 13) panil))))))) panil))) panil)))))))
      (pssone (psret (pv 11))))))))))), fun vs M Q Ep h => ?_⟩)
  obtain ⟨a, s, ns, rfl, e, k⟩ := h
  have he := He.start e
  walk_at "go"
  refine ⟨a, s, ns, 6, 32, rfl, by decide, by decide, by decide, e, fun rs M1 hrl sn hok hb e1 k1 => ?_⟩
  replace he := he.call e1 k1
  have rlen : (rs.map Row.pv).length = rs.length := List.length_map _
  walk_at "on"
  refine ⟨by decide, ?_⟩
  refine al he fun D hD he => ?_
  refine ⟨fun i acc M' => ∃ ps : List Addr, acc = ps.map PV.ref ∧ ps.length = i ∧ He K [] a s ns M M' ((D, .lst acc) :: (ps.reverse.map fun p => (p, MO.lst []))), ⟨_, .refl _, [], rfl, rfl, he _⟩, ?_, ?_, ?_⟩
  · intros; trivial
  · clear he
    rintro i x acc M2 hx ⟨ps, rfl, pl, he⟩
    obtain ⟨hi, rfl⟩ := rng_get hx
    walk_at "on"
    refine al he fun p hp he => ?_
    replace he := he (.lst [])
    walk_at "on"
    have hi3 : i < 3 := hi
    refine ⟨he.get 1 rfl, by rw [List.length_map, sizeLine_eq]; omega, _, .refl _, ps ++ [p], by rw [List.map_append]; rfl, by rw [List.length_append, pl]; rfl, ?_⟩
    rw [List.reverse_append, show ps.map PV.ref ++ [PV.ref p] = (ps ++ [p]).map PV.ref by rw [List.map_append]; rfl]
    exact (he.up1 (o' := .lst ((ps ++ [p]).map PV.ref))).perm (List.Perm.swap _ _ _)
  clear he
  rintro acc M2 ⟨ps, rfl, pl, he⟩
  rw [rng_len] at pl
  have pl : ps.length = 3 := pl
  obtain ⟨p0, p1, p2, rfl⟩ : ∃ p0 p1 p2, ps = [p0, p1, p2] := by
    match ps, pl with
    | [p0, p1, p2], _ => exact ⟨_, _, _, rfl⟩
  replace he := he.sel (L' := [(p0, .lst []), (p1, .lst []), (p2, .lst []), (D, .lst [.ref p0, .ref p1, .ref p2])]) [3, 2, 1, 0] (by decide) rfl
  walk_at "on"
  refine ⟨fun i σ M' => ∃ (h0 h1 h2 : List Row) (w8 : Option PV), (h0 ++ h1 ++ h2).Perm (rs.take i) ∧ h0.Sublist (rs.take i) ∧ h1.Sublist (rs.take i) ∧ h2.Sublist (rs.take i) ∧ σ = [some (.ref a), some (.ref s), none, none, some (.int 3), some (.int 14), some (rowsV rs), some (.ref D), w8, none, none, none, none, none] ∧ He K [] a s ns M M' [(p0, .lst (h0.map Row.pv)), (p1, .lst (h1.map Row.pv)), (p2, .lst (h2.map Row.pv)), (D, .lst [.ref p0, .ref p1, .ref p2])], ⟨_, _, by walk_at "subs", .refl _, [], [], [], _, by simp, by simp, by simp, by simp, rfl, he⟩, ?_, ?_, ?_⟩
  · intros; trivial
  · clear he
    rintro i z σ M3 hz ⟨h0, h1, h2, w8, pm, s0, s1, s2, rfl, he⟩
    obtain ⟨r, hr, rfl⟩ := row_at hz
    have hdd := he.get 3 rfl
    have e4 := take_succ' hr
    have hi9 := lt_of_get hr
    have l0 := s0.length_le
    have l1 := s1.length_le
    have l2 := s2.length_le
    have lt := List.length_take_le i rs
    have sub : ∀ {h : List Row}, h.Sublist (rs.take i) → h.Sublist (rs.take (i + 1)) := fun q => by rw [e4]; exact q.trans (List.sublist_append_left _ _)
    have sub1 : ∀ {h : List Row}, h.Sublist (rs.take i) → (h ++ [r]).Sublist (rs.take (i + 1)) := fun q => by rw [e4]; exact q.append (.refl _)
    walk_at "on"
    refine dr he (by decide) (by decide) fun d M4 d0 d1 he => ?_
    have hdd := he.get 3 rfl
    obtain rfl | rfl | rfl : d = 0 ∨ d = 1 ∨ d = 2 := by omega
    · have hat : atI [PV.ref p0, .ref p1, .ref p2] 0 = some (.ref p0) := rfl
      walk_at "on"
      refine ⟨_, he.get 0 rfl, by rw [List.length_map, sizeLine_eq]; omega, ?_⟩
      rw [show h0.map Row.pv ++ [r.pv] = (h0 ++ [r]).map Row.pv by rw [List.map_append]; rfl]
      exact ⟨_, _, by walk_at "subs", .refl _, h0 ++ [r], h1, h2, _, by rw [e4]; exact deal0 pm, sub1 s0, sub s1, sub s2, rfl, he.up0⟩
    · have hat : atI [PV.ref p0, .ref p1, .ref p2] 1 = some (.ref p1) := rfl
      walk_at "on"
      refine ⟨_, he.get 1 rfl, by rw [List.length_map, sizeLine_eq]; omega, ?_⟩
      rw [show h1.map Row.pv ++ [r.pv] = (h1 ++ [r]).map Row.pv by rw [List.map_append]; rfl]
      exact ⟨_, _, by walk_at "subs", .refl _, h0, h1 ++ [r], h2, _, by rw [e4]; exact deal1 pm, sub s0, sub1 s1, sub s2, rfl, he.up1⟩
    · have hat : atI [PV.ref p0, .ref p1, .ref p2] 2 = some (.ref p2) := rfl
      walk_at "on"
      refine ⟨_, he.get 2 rfl, by rw [List.length_map, sizeLine_eq]; omega, ?_⟩
      rw [show h2.map Row.pv ++ [r.pv] = (h2 ++ [r]).map Row.pv by rw [List.map_append]; rfl]
      exact ⟨_, _, by walk_at "subs", .refl _, h0, h1, h2 ++ [r], _, by rw [e4]; exact deal2 pm, sub s0, sub s1, sub1 s2, rfl, he.up2⟩
  clear he
  rintro σ M3 ⟨h0, h1, h2, w8, pm, s0, s1, s2, rfl, he⟩
  rw [rlen, List.take_of_length_le (Nat.le_refl _)] at pm s0 s1 s2
  walk_at "on"
  refine al he fun o ho he => ?_
  replace he := he (.lst [])
  walk_at "on"
  refine al he fun p3 hp3 he => ?_
  walk_at "on"
  refine dr (he _) (by decide) (by decide) fun d M4 d0 d1 he => ?_
  obtain ⟨c, cm, hc⟩ := int_mem (us := out7) d0 d1
  obtain ⟨c1, c2⟩ := out7_ok c cm
  walk_at "on"
  refine ⟨by omega, ?_⟩
  replace he := he.d0
  clear hc cm d0 d1 ho hp3 hD
  refine ⟨fun i σ M' => ∃ (us : List Str) (w10 : Option PV), us.length = i ∧ σ = [some (.ref a), some (.ref s), none, none, none, some (.int 14), some (rowsV rs), some (.ref D), none, some (.ref o), w10, none, none, none] ∧ He K [] a s ns M M' [(o, .lst (us.map PV.str)), (p0, .lst (h0.map Row.pv)), (p1, .lst (h1.map Row.pv)), (p2, .lst (h2.map Row.pv)), (D, .lst [.ref p0, .ref p1, .ref p2])], ⟨_, _, by walk_at "subs", .refl _, [], _, rfl, rfl, he⟩, ?_, ?_, ?_⟩
  · intros; trivial
  · clear he
    rintro i x σ M3 hx ⟨us, w7, hui, rfl, he⟩
    obtain ⟨hi, rfl⟩ := rng_get hx
    walk_at "on"
    refine ⟨a, s, o, ns, us, rfl, he.env, .inl (he.get 0 rfl), he.ne_s 0 rfl, by omega, fun x M4 nx nin e4 k4 => ?_⟩
    replace he := he.call e4 k4
    walk_at "on"
    refine ⟨_, he.get 0 rfl, by rw [List.length_map, sizeLine_eq]; omega, ?_⟩
    rw [show us.map PV.str ++ [PV.str x] = (us ++ [x]).map PV.str by rw [List.map_append]; rfl]
    exact ⟨_, _, by walk_at "subs", .refl _, us ++ [x], _, by rw [List.length_append, hui]; rfl, rfl, he.up0⟩
  clear he
  rintro σ M5 ⟨us, w10, hui, rfl, he⟩
  rw [rng_len] at hui
  have un : us ≠ [] := fun q => by rw [q] at hui; simp at hui; omega
  have ul : us.length ≤ 5 := by omega
  clear hui
  walk_at "on"
  refine ⟨fun σ M' => ∃ us : List Str, us ≠ [] ∧ us.length ≤ 6 ∧ σ = [some (.ref a), some (.ref s), none, none, none, some (.int 14), some (rowsV rs), some (.ref D), none, some (.ref o), none, none, none, none] ∧ He K [] a s ns M M' [(o, .lst (us.map PV.str)), (p0, .lst (h0.map Row.pv)), (p1, .lst (h1.map Row.pv)), (p2, .lst (h2.map Row.pv)), (D, .lst [.ref p0, .ref p1, .ref p2])], ?_, ?_⟩
  · walk_at "on"
    refine ⟨fun b M' => (b = true → 0 < rs.length) ∧ He K [] a s ns M M' [(o, .lst (us.map PV.str)), (p0, .lst (h0.map Row.pv)), (p1, .lst (h1.map Row.pv)), (p2, .lst (h2.map Row.pv)), (D, .lst [.ref p0, .ref p1, .ref p2])], ?_, ?_⟩
    · walk_at "on"
      refine br_dec (fun h => ?_) (fun h => ?_)
      · walk_at "on"
        refine dr he (by decide) (by decide) fun d M6 d0 d1 he => ?_
        walk_at "on"
        exact ⟨_, .refl _, fun _ => by omega, he⟩
      · exact ⟨_, .refl _, fun q => (by cases q), he⟩
    clear he
    rintro b M6 ⟨hb, he⟩
    refine br_of (fun h => ?_) (fun h => ?_)
    · have hb := hb h
      walk_at "on"
      refine dr he (by omega) (bt64 (by omega)) fun d M7 d0 d1 he => ?_
      rw [rlen] at d1
      obtain ⟨q, hq, hqa⟩ := row_mem d0 d1
      walk_at "on"
      refine ⟨_, he.get 0 rfl, by rw [List.length_map, sizeLine_eq]; omega, ?_⟩
      rw [show us.map PV.str ++ [PV.str q.nm] = (us ++ [q.nm]).map PV.str by rw [List.map_append]; rfl]
      exact ⟨_, _, by walk_at "subs", .refl _, us ++ [q.nm], by simp, by rw [List.length_append, List.length_singleton]; omega, rfl, he.up0⟩
    · exact ⟨_, _, by walk_at "subs", .refl _, us, un, by omega, rfl, he⟩
  clear he un ul
  rintro σ M6 ⟨us, un, ul, rfl, he⟩
  walk_at "on"
  refine al he fun gl hgl he => ?_
  replace he := he (.lst [])
  walk_at "on"
  have hm : ∀ {h : List Row}, h.Sublist rs → (∀ r ∈ h, RowD r) ∧ h.length ≤ 6 := fun q => ⟨fun r hr => hok r (q.subset hr), Nat.le_trans q.length_le hrl⟩
  obtain ⟨g0, g0l⟩ := hm s0
  obtain ⟨g1, g1l⟩ := hm s1
  obtain ⟨g2, g2l⟩ := hm s2
  let H : Nat → List Row := fun j => [h0, h1, h2].getD j []
  refine ⟨fun i σ M' => ∃ (T : Nat → Tr) (w12 w13 : Option PV), (∀ j, j < i → TOk us (H j) (T j)) ∧ σ = [some (.ref a), some (.ref s), none, none, none, some (.int 14), some (rowsV rs), some (.ref D), none, some (.ref o), none, some (.ref gl), w12, w13] ∧ He K [] a s ns M M' ((gl, .lst (mk i fun j => gameV (H j) (T j))) :: [(o, .lst (us.map PV.str)), (p0, .lst (h0.map Row.pv)), (p1, .lst (h1.map Row.pv)), (p2, .lst (h2.map Row.pv)), (D, .lst [.ref p0, .ref p1, .ref p2])]), ⟨_, _, by walk_at "subs", .refl _, fun _ => .leaf (Str.ofString ""), _, _, fun j hj => absurd hj (by omega), rfl, he⟩, fun i σ M1 ⟨_, _, _, _, _, h⟩ => .inl (h.get 5 rfl), ?_, ?_⟩
  · clear he
    rintro i z σ M7 hz ⟨T, w12, w13, hT, rfl, he⟩
    have hi := lt_of_get hz
    have hi : i < 3 := hi
    obtain rfl | rfl | rfl : i = 0 ∨ i = 1 ∨ i = 2 := by omega
    · cases (show some (PV.ref p0) = some z from hz)
      have hpj := he.get 2 rfl
      have hjl : (h0.map Row.pv).length = h0.length := List.length_map _
      walk_at "on"
      refine ⟨fun σ M' => ∃ tp : Option Row, (∀ q, tp = some q → q ∈ h0) ∧ σ = [some (.ref a), some (.ref s), none, none, none, some (.int 14), some (rowsV rs), some (.ref D), none, some (.ref o), none, some (.ref gl), some (.ref p0), some (optR tp)] ∧ He K [] a s ns M M' ((gl, .lst (mk 0 fun j => gameV (H j) (T j))) :: [(o, .lst (us.map PV.str)), (p0, .lst (h0.map Row.pv)), (p1, .lst (h1.map Row.pv)), (p2, .lst (h2.map Row.pv)), (D, .lst [.ref p0, .ref p1, .ref p2])]), ?_, ?_⟩
      · walk_at "on"
        refine ⟨fun b M' => (b = true → 0 < h0.length) ∧ He K [] a s ns M M' ((gl, .lst (mk 0 fun j => gameV (H j) (T j))) :: [(o, .lst (us.map PV.str)), (p0, .lst (h0.map Row.pv)), (p1, .lst (h1.map Row.pv)), (p2, .lst (h2.map Row.pv)), (D, .lst [.ref p0, .ref p1, .ref p2])]), ?_, ?_⟩
        · walk_at "on"
          refine br_dec (fun h => ?_) (fun h => ?_)
          · walk_at "on"
            refine dr he (by decide) (by decide) fun d M8 d0 d1 he => ?_
            walk_at "on"
            exact ⟨_, .refl _, fun _ => by omega, he⟩
          · exact ⟨_, .refl _, fun q => (by cases q), he⟩
        clear he hpj
        rintro b M8 ⟨hb, he⟩
        have hpj := he.get 2 rfl
        refine br_of (fun h => ?_) (fun h => ?_)
        · have hb := hb h
          walk_at "on"
          refine dr he (by omega) (bt64 (by omega)) fun d M9 d0 d1 he => ?_
          have hpj := he.get 2 rfl
          rw [hjl] at d1
          obtain ⟨q, hq, hqa⟩ := row_mem d0 d1
          walk_at "on"
          exact ⟨_, _, by walk_at "subs", .refl _, some q, fun q' e => by cases e; exact hq, rfl, he⟩
        · exact ⟨_, _, by walk_at "subs", .refl _, none, fun q' e => by (cases e), rfl, he⟩
      clear he hpj
      rintro σ M8 ⟨tp, htp, rfl, he⟩
      have hpj := he.get 2 rfl
      walk_at "on"
      refine al he fun r hr he => ?_
      replace he := he (.lst [.int 14])
      walk_at "on"
      refine ⟨a, s, p0, o, r, ns, h0, us, 14, tp, rfl, by omega, by omega, by omega, un, fun q hq => ⟨(g0 q hq).l1, by have := (g0 q hq).l2; omega⟩, he.env, he.get 3 rfl, he.get 2 rfl, he.get 0 rfl, he.ne_s 3 rfl, he.ne_s 2 rfl, he.ne_s 0 rfl, he.ne 3 0 (by decide) rfl rfl, he.ne 2 0 (by decide) rfl rfl, he.ne_a 0 rfl, htp, fun t M9 m9 ht e9 k9 hr9 => ?_⟩
      replace he := he.c20 e9 k9 hr9
      walk_at "on"
      refine ⟨_, he.get 1 rfl, by rw [mk_len, sizeLine_eq]; omega, ?_⟩
      replace he := (he.up1 (o' := .lst (mk 1 fun i => gameV (H i) (if i = 0 then t else T i)))).d0
      exact ⟨_, _, by walk_at "subs", .refl _, fun i => if i = 0 then t else T i, _, _, fun i hi => by
        by_cases e : i = 0
        · subst e; exact ht
        · show TOk us (H i) (if i = 0 then t else T i); rw [if_neg e]; exact hT i (by omega), rfl, he⟩
    · cases (show some (PV.ref p1) = some z from hz)
      have hpj := he.get 3 rfl
      have hjl : (h1.map Row.pv).length = h1.length := List.length_map _
      walk_at "on"
      refine ⟨fun σ M' => ∃ tp : Option Row, (∀ q, tp = some q → q ∈ h1) ∧ σ = [some (.ref a), some (.ref s), none, none, none, some (.int 14), some (rowsV rs), some (.ref D), none, some (.ref o), none, some (.ref gl), some (.ref p1), some (optR tp)] ∧ He K [] a s ns M M' ((gl, .lst (mk 1 fun j => gameV (H j) (T j))) :: [(o, .lst (us.map PV.str)), (p0, .lst (h0.map Row.pv)), (p1, .lst (h1.map Row.pv)), (p2, .lst (h2.map Row.pv)), (D, .lst [.ref p0, .ref p1, .ref p2])]), ?_, ?_⟩
      · walk_at "on"
        refine ⟨fun b M' => (b = true → 0 < h1.length) ∧ He K [] a s ns M M' ((gl, .lst (mk 1 fun j => gameV (H j) (T j))) :: [(o, .lst (us.map PV.str)), (p0, .lst (h0.map Row.pv)), (p1, .lst (h1.map Row.pv)), (p2, .lst (h2.map Row.pv)), (D, .lst [.ref p0, .ref p1, .ref p2])]), ?_, ?_⟩
        · walk_at "on"
          refine br_dec (fun h => ?_) (fun h => ?_)
          · walk_at "on"
            refine dr he (by decide) (by decide) fun d M8 d0 d1 he => ?_
            walk_at "on"
            exact ⟨_, .refl _, fun _ => by omega, he⟩
          · exact ⟨_, .refl _, fun q => (by cases q), he⟩
        clear he hpj
        rintro b M8 ⟨hb, he⟩
        have hpj := he.get 3 rfl
        refine br_of (fun h => ?_) (fun h => ?_)
        · have hb := hb h
          walk_at "on"
          refine dr he (by omega) (bt64 (by omega)) fun d M9 d0 d1 he => ?_
          have hpj := he.get 3 rfl
          rw [hjl] at d1
          obtain ⟨q, hq, hqa⟩ := row_mem d0 d1
          walk_at "on"
          exact ⟨_, _, by walk_at "subs", .refl _, some q, fun q' e => by cases e; exact hq, rfl, he⟩
        · exact ⟨_, _, by walk_at "subs", .refl _, none, fun q' e => by (cases e), rfl, he⟩
      clear he hpj
      rintro σ M8 ⟨tp, htp, rfl, he⟩
      have hpj := he.get 3 rfl
      walk_at "on"
      refine al he fun r hr he => ?_
      replace he := he (.lst [.int 14])
      walk_at "on"
      refine ⟨a, s, p1, o, r, ns, h1, us, 14, tp, rfl, by omega, by omega, by omega, un, fun q hq => ⟨(g1 q hq).l1, by have := (g1 q hq).l2; omega⟩, he.env, he.get 4 rfl, he.get 2 rfl, he.get 0 rfl, he.ne_s 4 rfl, he.ne_s 2 rfl, he.ne_s 0 rfl, he.ne 4 0 (by decide) rfl rfl, he.ne 2 0 (by decide) rfl rfl, he.ne_a 0 rfl, htp, fun t M9 m9 ht e9 k9 hr9 => ?_⟩
      replace he := he.c20 e9 k9 hr9
      walk_at "on"
      refine ⟨_, he.get 1 rfl, by rw [mk_len, sizeLine_eq]; omega, ?_⟩
      replace he := (he.up1 (o' := .lst (mk 2 fun i => gameV (H i) (if i = 1 then t else T i)))).d0
      exact ⟨_, _, by walk_at "subs", .refl _, fun i => if i = 1 then t else T i, _, _, fun i hi => by
        by_cases e : i = 1
        · subst e; exact ht
        · show TOk us (H i) (if i = 1 then t else T i); rw [if_neg e]; exact hT i (by omega), rfl, he⟩
    · cases (show some (PV.ref p2) = some z from hz)
      have hpj := he.get 4 rfl
      have hjl : (h2.map Row.pv).length = h2.length := List.length_map _
      walk_at "on"
      refine ⟨fun σ M' => ∃ tp : Option Row, (∀ q, tp = some q → q ∈ h2) ∧ σ = [some (.ref a), some (.ref s), none, none, none, some (.int 14), some (rowsV rs), some (.ref D), none, some (.ref o), none, some (.ref gl), some (.ref p2), some (optR tp)] ∧ He K [] a s ns M M' ((gl, .lst (mk 2 fun j => gameV (H j) (T j))) :: [(o, .lst (us.map PV.str)), (p0, .lst (h0.map Row.pv)), (p1, .lst (h1.map Row.pv)), (p2, .lst (h2.map Row.pv)), (D, .lst [.ref p0, .ref p1, .ref p2])]), ?_, ?_⟩
      · walk_at "on"
        refine ⟨fun b M' => (b = true → 0 < h2.length) ∧ He K [] a s ns M M' ((gl, .lst (mk 2 fun j => gameV (H j) (T j))) :: [(o, .lst (us.map PV.str)), (p0, .lst (h0.map Row.pv)), (p1, .lst (h1.map Row.pv)), (p2, .lst (h2.map Row.pv)), (D, .lst [.ref p0, .ref p1, .ref p2])]), ?_, ?_⟩
        · walk_at "on"
          refine br_dec (fun h => ?_) (fun h => ?_)
          · walk_at "on"
            refine dr he (by decide) (by decide) fun d M8 d0 d1 he => ?_
            walk_at "on"
            exact ⟨_, .refl _, fun _ => by omega, he⟩
          · exact ⟨_, .refl _, fun q => (by cases q), he⟩
        clear he hpj
        rintro b M8 ⟨hb, he⟩
        have hpj := he.get 4 rfl
        refine br_of (fun h => ?_) (fun h => ?_)
        · have hb := hb h
          walk_at "on"
          refine dr he (by omega) (bt64 (by omega)) fun d M9 d0 d1 he => ?_
          have hpj := he.get 4 rfl
          rw [hjl] at d1
          obtain ⟨q, hq, hqa⟩ := row_mem d0 d1
          walk_at "on"
          exact ⟨_, _, by walk_at "subs", .refl _, some q, fun q' e => by cases e; exact hq, rfl, he⟩
        · exact ⟨_, _, by walk_at "subs", .refl _, none, fun q' e => by (cases e), rfl, he⟩
      clear he hpj
      rintro σ M8 ⟨tp, htp, rfl, he⟩
      have hpj := he.get 4 rfl
      walk_at "on"
      refine al he fun r hr he => ?_
      replace he := he (.lst [.int 14])
      walk_at "on"
      refine ⟨a, s, p2, o, r, ns, h2, us, 14, tp, rfl, by omega, by omega, by omega, un, fun q hq => ⟨(g2 q hq).l1, by have := (g2 q hq).l2; omega⟩, he.env, he.get 5 rfl, he.get 2 rfl, he.get 0 rfl, he.ne_s 5 rfl, he.ne_s 2 rfl, he.ne_s 0 rfl, he.ne 5 0 (by decide) rfl rfl, he.ne 2 0 (by decide) rfl rfl, he.ne_a 0 rfl, htp, fun t M9 m9 ht e9 k9 hr9 => ?_⟩
      replace he := he.c20 e9 k9 hr9
      walk_at "on"
      refine ⟨_, he.get 1 rfl, by rw [mk_len, sizeLine_eq]; omega, ?_⟩
      replace he := (he.up1 (o' := .lst (mk 3 fun i => gameV (H i) (if i = 2 then t else T i)))).d0
      exact ⟨_, _, by walk_at "subs", .refl _, fun i => if i = 2 then t else T i, _, _, fun i hi => by
        by_cases e : i = 2
        · subst e; exact ht
        · show TOk us (H i) (if i = 2 then t else T i); rw [if_neg e]; exact hT i (by omega), rfl, he⟩
  · clear he
    rintro σ M7 ⟨T, w12, w13, hT, rfl, he⟩
    have hh := he.get 0 rfl
    have nd : (namesOf (h0 ++ h1 ++ h2)).Nodup := (pm.map Row.nm).nodup_iff.mpr sn.nodup
    have gg : ∀ {h : List Row} {t : Tr}, h.Sublist rs → TOk us h t → G51 us h t 6 := fun {h t} q ht => ⟨ht, sn.sublist q, fun r hr => ((hm q).1 r hr).nm.len, fun r hr => ((hm q).1 r hr).l1, fun r hr => ((hm q).1 r hr).l2, (hm q).2⟩
    walk_at "on"
    exact ⟨_, .refl _, k gl us h0 h1 h2 (T 0) (T 1) (T 2) _ (gg s0 (hT 0 (by show 0 < 3; decide))) (gg s1 (hT 1 (by show 1 < 3; decide))) (gg s2 (hT 2 (by show 2 < 3; decide))) nd (by rw [pm.length_eq]; exact hrl) (he.fresh 0 rfl) hh he.env he.keep (he.ne_s 0 rfl)⟩

structure W51 (rs : List Row) (t : Tr) (n m : Nat) : Prop where
  sn : SortedN rs
  nm : ∀ r ∈ rs, r.nm.length ≤ 1000
  w4 : ∀ r ∈ rs, r.ws.length ≤ 4
  le : rs.length ≤ m
  bt : BT (n + 1) t
theorem G51.w {us : List Str} {rs : List Row} {t : Tr} {k : Nat} (g : G51 us rs t k) : W51 rs t rs.length rs.length :=
  ⟨g.sn, g.nm, g.w4, Nat.le_refl _, g.tok.bt (fun r hr => by have := g.w4 r hr; omega) (by omega)⟩
theorem W51.sub {hs gs qs : List Row} {ht gt : Tr} {a b c d : Nat} {o : Str} (h : W51 hs ht a b) (g : W51 gs gt c d) (pm : qs.Perm (hs ++ gs)) (sn : SortedN qs) : W51 qs (subT o gt ht) (a + c) (b + d) := by
  refine ⟨sn, fun r hr => ?_, fun r hr => ?_, ?_, g.bt.sub h.bt⟩
  · rcases List.mem_append.mp (pm.mem_iff.mp hr) with z | z
    · exact h.nm r z
    · exact g.nm r z
  · rcases List.mem_append.mp (pm.mem_iff.mp hr) with z | z
    · exact h.w4 r z
    · exact g.w4 r z
  · have := h.le
    have := g.le
    rw [pm.length_eq, List.length_append]; omega
theorem W51.pl {rs : List Row} {t : Tr} {n m : Nat} (h : W51 rs t n m) (hn : n ≤ 16) (hm : m ≤ 1000) : PlD 40 (gameV rs t) :=
  game_pl (n := n + 1) (by have := h.le; omega) (fun r hr => by have := h.w4 r hr; omega) h.bt (by omega)
theorem W51.ws {hs gs : List Row} {ht gt : Tr} {a b c d : Nat} (h : W51 hs ht a b) (g : W51 gs gt c d) : ∀ r ∈ hs ++ gs, r.ws.length ≤ 1000 := fun r hr => by
  rcases List.mem_append.mp hr with z | z
  · have := h.w4 r z; omega
  · have := g.w4 r z; omega
theorem ends_pos {us : List Str} {rs : List Row} {t : Tr} (h : TOk us rs t) : (∀ r ∈ rs, 1 ≤ r.ws.length) → 0 < (endsT t).length := by
  induction h with
  | leaf _ => intro _; rw [endsT_leaf]; exact Nat.one_pos
  | @node rs r cs hr hl hc ih =>
    intro hw
    rw [endsT_node]
    have h1 := hw r hr
    cases cs with
    | nil => rw [← hl] at h1; simp at h1
    | cons c l =>
      have := ih c List.mem_cons_self fun q hq => hw q (offN_sub hq)
      rw [endsTs_cons, List.length_append]; omega
theorem G51.ends {us : List Str} {rs : List Row} {t : Tr} {k : Nat} (g : G51 us rs t k) (h : k ≤ 10) : (endsT t).length ≤ 8000000 := by
  have h1 := ends_len g.tok g.w4
  have h2 : 4 ^ rs.length ≤ 4 ^ 10 := Nat.pow_le_pow_right (by omega) (by have := g.le; omega)
  have h3 : (4 : Nat) ^ 10 = 1048576 := by decide
  omega
theorem dj_of {hs gs : List Row} (nd : (namesOf (hs ++ gs)).Nodup) : ∀ n ∈ namesOf gs, n ∉ namesOf hs := fun n h1 h2 => by
  rw [namesOf, List.map_append, List.nodup_append] at nd
  exact nd.2.2 n h2 n h1 rfl
theorem nd3 {h0 gs ts qs : List Row} (nd : (namesOf (h0 ++ gs ++ ts)).Nodup) (nq : (namesOf qs).Nodup) (h : ∀ z, z ∈ namesOf qs → z ∈ namesOf h0 ∨ (z ∉ namesOf gs ∧ z ∉ namesOf ts)) : (namesOf (qs ++ gs ++ ts)).Nodup := by
  rw [namesOf, List.map_append, List.map_append, List.nodup_append, List.nodup_append] at nd ⊢
  obtain ⟨⟨n1, n2, n3⟩, n4, n5⟩ := nd
  refine ⟨⟨nq, n2, fun a ha b hb e => ?_⟩, n4, fun a ha b hb e => ?_⟩
  · rcases h a ha with q | q
    · exact n3 a q b hb e
    · exact q.1 (e ▸ hb)
  · rcases List.mem_append.mp ha with ha | ha
    · rcases h a ha with q | q
      · exact n5 a (List.mem_append_left _ q) b hb e
      · exact q.2 (e ▸ hb)
    · exact n5 a (List.mem_append_right _ ha) b hb e

theorem ok_law {P : Program} {w : World} {K : Kf} {mg : Str → Option Value} {base : Heap} {f : Addr} {fd : FuncData} (F : Fun K "law" "law" s_law f fd) (T : Blt mg) (Z : Zc K mg) (XC : Xc K mg) (Su : Sure P base) (C__law_dealt : Callee P w K mg base 56 "_law_dealt" ["script", "source", "many", "most", "count", "nodes"] (sp__law_dealt K)) (C__law_draw : Callee P w K mg base 34 "_law_draw" ["script", "source", "limit"] (sp__law_draw K)) (C__law_ends : Callee P w K mg base 47 "_law_ends" ["tree"] (sp__law_ends K 13)) (C__law_meeting : Callee P w K mg base 49 "_law_meeting" ["script", "source", "host", "guest"] (sp__law_meeting K)) (C__law_name : Callee P w K mg base 35 "_law_name" ["script", "source", "used"] (sp__law_name K)) (C__law_plain : Callee P w K mg base 86 "_law_plain" ["answer"] (sp__law_plain K 52)) (C__law_refused : Callee P w K mg base 53 "_law_refused" ["host", "outcome", "guest"] (sp__law_refused K)) (C__law_set_apart : Callee P w K mg base 87 "_law_set_apart" ["host", "outcome", "guest"] (sp__law_set_apart K)) (C__law_source : Callee P w K mg base 34 "_law_source" ["script"] (sp__law_source K)) (C__law_whole : Callee P w K mg base 52 "_law_whole" ["host", "outcome", "guest"] (sp__law_whole K)) (C__law_with_set : Callee P w K mg base 48 "_law_with_set" ["script", "source", "game", "name"] (sp__law_with_set K)) (C_substitute : CalleeR (L2.CX P w) P w K mg base 52 "substitute" ["host", "outcome", "guest"] (sp_substitute K)) : FnOk P w K mg base CX0 88 f fd ["script"] (concF K (spLaw K)) := by
  have z_Derivation_start : FldOk K (clsA K "Derivation") "start" := ⟨Z.cls_Derivation, Z.f_Derivation_start⟩
  have z_Derivation_end : FldOk K (clsA K "Derivation") "end" := ⟨Z.cls_Derivation, Z.f_Derivation_end⟩
  have z_Derivation_steps : FldOk K (clsA K "Derivation") "steps" := ⟨Z.cls_Derivation, Z.f_Derivation_steps⟩
  have z_Derivation_back : FldOk K (clsA K "Derivation") "back" := ⟨Z.cls_Derivation, Z.f_Derivation_back⟩
  have z_Derivation__stage_rows : FldOk K (clsA K "Derivation") "_stage_rows" := ⟨Z.cls_Derivation, Z.f_Derivation__stage_rows⟩
  have z_Draft_start : FldOk K (clsA K "Draft") "start" := ⟨Z.cls_Draft, Z.f_Draft_start⟩
  have z_Draft_game : FldOk K (clsA K "Draft") "game" := ⟨Z.cls_Draft, Z.f_Draft_game⟩
  have z_Draft__done_steps : FldOk K (clsA K "Draft") "_done_steps" := ⟨Z.cls_Draft, Z.f_Draft__done_steps⟩
  have z_Draft__back_steps : FldOk K (clsA K "Draft") "_back_steps" := ⟨Z.cls_Draft, Z.f_Draft__back_steps⟩
  have z_Draft__rows_so_far : FldOk K (clsA K "Draft") "_rows_so_far" := ⟨Z.cls_Draft, Z.f_Draft__rows_so_far⟩
  refine law_of F sc_law (fun vs M Q E h => by obtain ⟨_, _, rfl, _⟩ := h; rfl) (fun f cdv A outer s H E hr => ⟨_, (psscons (psset 1 sc_law.nd (pcall C__law_source (by exact hr.mono (by first | decide | omega)) (pacons (pv 0) panil)))
      (psscons (psasg (pcall C__law_dealt (by exact hr.mono (by first | decide | omega)) (pacons (pv 0) (pacons (pv 1) (pacons pinT (pacons pinT (pacons pinT (pacons pinT panil))))))) (pgunl rfl (pgscons (pgname (i := 2) sc_law.nd) (pgscons (pgname (i := 3) sc_law.nd) (pgscons (pgname (i := 4) sc_law.nd) pgsnil)))))
      (psscut (psifc (PW.pt (pwand (ptcmp (opEqK (K := K) (by exact hr.units)) (pcall C__law_draw (by exact hr.mono (by first | decide | omega)) (pacons (pv 0) (pacons (pv 1) (pacons pinT panil)))) pinT (nomark _)) (pwand1 (ptcmp (opNotIn (K := K)) pstr (plcP  rfl sc_law.nd (piseqK (K := K) (pop opAdd (pop opAdd (pixK (K := K) (pv 2) pinT) (pixK (K := K) (pv 3) pinT)) (pixK (K := K) (pv 4) pinT))) (blkOk_by (own := [("row", 14)]) (N := ["script", "source", "host", "guest", "third", "ends", "outcome", "whole", "inside", "other", "inner", "last", "early", "meeting", "row"]) (sc := defScope s_law) (by decide +kernel)) (tgName (by decide)) (fun _ _ _ _ _ => (pg_name (i := 14) sc_law.nd rfl (by first | exact Or.inl rfl | exact Or.inr rfl))) (fun _ _ _ _ _ => (pixK (K := K) (pv 14) pinT))) rfl)))) (pssone (psset 2 sc_law.nd (pcall C__law_with_set (by exact hr.mono (by first | decide | omega)) (pacons (pv 0) (pacons (pv 1) (pacons (pv 2) (pacons pstr panil))))))) pssnil)
      (psscons (psset 5 sc_law.nd (pcall C__law_ends (by exact hr.mono (by first | decide | omega)) (pacons (pixK (K := K) (pv 2) pinT) panil)))
      (psscons (psset 6 sc_law.nd (pixK (K := K) (pv 5) (pcall C__law_draw (by exact hr.mono (by first | decide | omega)) (pacons (pv 0) (pacons (pv 1) (pacons (pcallB (cLenK (K := K)) (by rfl) T.b_len (by decide +kernel) (pacons (pv 5) panil)) panil))))))
      (psscut (psif (ptcmp (opEqK (K := K) (by exact hr.units)) (pcall C__law_draw (by exact hr.mono (by first | decide | omega)) (pacons (pv 0) (pacons (pv 1) (pacons pinT panil)))) pinT (nomark _)) (pssone (psset 6 sc_law.nd (pcall C__law_name (by exact hr.mono (by first | decide | omega)) (pacons (pv 0) (pacons (pv 1) (pacons (plst panil) panil)))))) pssnil)
      (psscons (psset 7 sc_law.nd (pcallR0 C_substitute rfl (by exact hr.mono (by first | decide | omega)) (pacons (pv 2) (pacons (pv 6) (pacons (pv 3) panil)))))
      (psscons (psifc (PW.pt (pwor (ptnot (ptval (pcall C__law_plain (by exact hr.mono (by first | decide | omega)) (pacons (pv 7) panil)))) (pwor1 (ptcmp (opNeD (K := K) (by exact hr.units)) (pv 7) (pcall C__law_whole (by exact hr.mono (by first | decide | omega)) (pacons (pv 2) (pacons (pv 6) (pacons (pv 3) panil)))) (nomark _))))) (pssone (psret pbl)) pssnil)
      (psscons (psset 8 sc_law.nd (pcall C__law_ends (by exact hr.mono (by first | decide | omega)) (pacons (pixK (K := K) (pv 3) pinT) panil)))
      (psscons (psset 9 sc_law.nd (pixK (K := K) (pv 8) (pcall C__law_draw (by exact hr.mono (by first | decide | omega)) (pacons (pv 0) (pacons (pv 1) (pacons (pcallB (cLenK (K := K)) (by rfl) T.b_len (by decide +kernel) (pacons (pv 8) panil)) panil))))))
      (psscons (psset 10 sc_law.nd (pcallR0 C_substitute rfl (by exact hr.mono (by first | decide | omega)) (pacons (pv 3) (pacons (pv 9) (pacons (pv 4) panil)))))
      (psscons (psifc (PW.pt (pwor (ptnot (ptval (pcall C__law_plain (by exact hr.mono (by first | decide | omega)) (pacons (pv 10) panil)))) (pwor1 (ptcmp (opNeD (K := K) (by exact hr.units)) (pv 10) (pcall C__law_whole (by exact hr.mono (by first | decide | omega)) (pacons (pv 3) (pacons (pv 9) (pacons (pv 4) panil)))) (nomark _))))) (pssone (psret pbl)) pssnil)
      (psscons (psset 11 sc_law.nd (pcallR0 C_substitute rfl (by exact hr.mono (by first | decide | omega)) (pacons (pv 7) (pacons (pv 9) (pacons (pv 4) panil)))))
      (psscons (psset 12 sc_law.nd (pcallR0 C_substitute rfl (by exact hr.mono (by first | decide | omega)) (pacons (pv 2) (pacons (pv 6) (pacons (pv 10) panil)))))
      (psscons (psifc (PW.pt (pwor (ptcmp (opNeD (K := K) (by exact hr.units)) (pv 11) (pcall C__law_whole (by exact hr.mono (by first | decide | omega)) (pacons (pv 7) (pacons (pv 9) (pacons (pv 4) panil)))) (nomark _)) (pwor1 (ptcmp (opNeD (K := K) (by exact hr.units)) (pv 12) (pcall C__law_whole (by exact hr.mono (by first | decide | omega)) (pacons (pv 2) (pacons (pv 6) (pacons (pv 10) panil)))) (nomark _))))) (pssone (psret pbl)) pssnil)
      (psscons (psifc (PW.pt (pwand (PW.pt (pwor (ptcmp (opEqD (K := K) (by exact hr.units)) (pv 9) (pv 6) (nomark _)) (pwor1 (ptcmp (opNotIn (K := K)) (pv 9) (pv 5) rfl)))) (pwand1 (ptcmp (opNeD (K := K) (by exact hr.units)) (pv 11) (pv 12) (nomark _))))) (pssone (psret pbl)) pssnil)
      (psscut (psif (ptcmp opGt (pcallB (cLenK (K := K)) (by rfl) T.b_len (by decide +kernel) (pacons (pixK (K := K) (pv 2) pinT) panil)) pinT (nomark _)) (psscons (psset 13 sc_law.nd (pcall C__law_meeting (by exact hr.mono (by first | decide | omega)) (pacons (pv 0) (pacons (pv 1) (pacons (pv 2) (pacons (pv 3) panil))))))
      (psscons (psifc (PW.pt (pwor (ptnot (ptval (pcall C__law_refused (by exact hr.mono (by first | decide | omega)) (pacons (pv 2) (pacons (pv 6) (pacons (pv 13) panil)))))) (pwor1 (ptnot (ptval (pcall C__law_refused (by exact hr.mono (by first | decide | omega)) (pacons (pv 13) (pacons (pv 9) (pacons (pv 2) panil))))))))) (pssone (psret pbl)) pssnil)
      (pssone (psif (ptnot (ptval (pcall C__law_set_apart (by exact hr.mono (by first | decide | omega)) (pacons (pv 2) (pacons (pv 6) (pacons (pv 13) panil)))))) (pssone (psret pbl)) pssnil)))) pssnil)
      (pssone (psret (pand (pcall C__law_set_apart (by exact hr.mono (by first | decide | omega)) (pacons (pv 2) (pacons (pv 6) (pacons (pv 3) panil)))) (pone (pcmp (opEqD (K := K) (by exact hr.units)) (pcallR0 C_substitute rfl (by exact hr.mono (by first | decide | omega)) (pacons (pv 2) (pacons (pv 6) (pacons (pv 3) panil)))) (pv 7) (nomark _))))))))))))))))))))))), fun vs M Q Ep h => ?_⟩)
  obtain ⟨a, ns, rfl, hrd, hlen, hbits, k⟩ := h
  walk_at "go"
  refine ⟨a, ns, rfl, hrd, fun s M1 m hs0 sb hs1 hm => ?_⟩
  have e1 := Env.first hrd hs0 sb hs1 hm hlen hbits
  have k0 : ∀ M', Keep s M1 M' → Sub M M' := fun M' kk b o hb => kk b o (neM hb hs0) (sb _ _ hb)
  clear hrd hs1 hm
  walk_at "on"
  refine ⟨a, s, ns, rfl, e1, fun l us h0 gs ts t0 gt tt M2 g0 gg gh nd0 le0 hl0 hl1 e2 k2 hls => ?_⟩
  have he := (He.start e1).call e2 k2
  walk_at "on"
  refine ⟨fun σ M' => ∃ (hs : List Row) (ht : Tr), G51 us hs ht 7 ∧ (namesOf (hs ++ gs ++ ts)).Nodup ∧ (hs ++ gs ++ ts).length ≤ 7 ∧ σ = [some (.ref a), some (.ref s), some (gameV hs ht), some (gameV gs gt), some (gameV ts tt), none, none, none, none, none, none, none, none, none, none] ∧ He K [] a s ns M1 M' [], ?_, ?_⟩
  · have al : (h0.map Row.pv).length = h0.length := List.length_map _
    have bl : (gs.map Row.pv).length = gs.length := List.length_map _
    have cl : (ts.map Row.pv).length = ts.length := List.length_map _
    rw [List.length_append, List.length_append] at le0
    walk_at "on"
    refine ⟨fun b M' => (b = true → Str.ofString "m0" ∉ namesOf (h0 ++ gs ++ ts)) ∧ He K [] a s ns M1 M' [], ?_, ?_⟩
    · walk_at "on"
      refine dr he (by decide) (by decide) fun d M3 d0 d1 he => ?_
      walk_at "on"
      refine br_dec (fun h => ?_) (fun h => ?_)
      · walk_at "on"
        refine ⟨by rw [al, bl, sizeLine_eq]; omega, ?_⟩
        rw [← List.map_append]
        walk_at "on"
        refine ⟨by rw [List.length_map, List.length_append, cl, sizeLine_eq]; omega, ?_⟩
        rw [← List.map_append]
        walk_at "on"
        refine ⟨fun i => .str ((h0 ++ gs ++ ts).getD i r0).nm, by rw [List.length_map, List.length_append, List.length_append]; omega, fun _ _ => trivial, fun i z M2 Q2 hz sb k3 => ?_, fun Dl l hD hl2 => ?_⟩
        · obtain ⟨r, hr, rfl⟩ := row_at hz
          refine ⟨_, rfl, ?_⟩
          simp only [getD_at hr] at k3
          walk_at "on"
          exact k3 _ (.refl _)
        rw [List.length_map, mk_list (h0 ++ gs ++ ts) r0 (fun r => PV.str r.nm), show ((h0 ++ gs ++ ts).map fun r => PV.str r.nm) = (namesOf (h0 ++ gs ++ ts)).map PV.str by rw [namesOf, List.map_map]; rfl] at hl2
        subst hl2
        replace he := he.new (o := .lst ((namesOf (h0 ++ gs ++ ts)).map PV.str)) hD
        walk_at "on"
        exact ⟨_, .refl _, fun q => by simpa using q, he.nil⟩
      · exact ⟨_, .refl _, fun q => (by cases q), he.nil⟩
    clear he
    rintro b M3 ⟨hb, he⟩
    refine br_of (fun h => ?_) (fun h => ?_)
    · have hb := hb h
      rw [namesOf, List.map_append, List.map_append, List.mem_append, List.mem_append] at hb
      walk_at "on"
      refine ⟨a, s, ns, us, h0, t0, _, 6, rfl, g0, by decide, fun q => hb (.inl (.inl q)), by decide +kernel, he.env, fun qs t' M4 g' gl hm e4 k4 => ?_⟩
      replace he := he.call e4 k4
      refine ⟨_, _, by walk_at "subs", .refl _, qs, t', g', ?_, ?_, rfl, he⟩
      · refine nd3 nd0 g'.sn.nodup fun z hz => ?_
        rcases (hm z).mp hz with q | q
        · exact .inl q
        · subst q; exact .inr ⟨fun q => hb (.inl (.inr q)), fun q => hb (.inr q)⟩
      · rw [List.length_append, List.length_append]; omega
    · exact ⟨_, _, by walk_at "subs", .refl _, h0, t0, g0.mono (by decide), nd0, by rw [List.length_append, List.length_append]; omega, rfl, he⟩
  clear he nd0 le0 g0
  rintro σ M3 ⟨hs, ht, g0, nd0, le0, rfl, he⟩
  rw [List.length_append, List.length_append] at le0
  have hp := ends_pos g0.tok g0.w1
  have ell : ((endsT ht).map PV.str).length = (endsT ht).length := List.length_map _
  walk_at "on"
  refine ⟨ht, rfl, g0.bt.mono (by decide), g0.ends (by decide), fun el M4 hel0 hel1 sb4 => ?_⟩
  replace he := he.addn sb4 hel0 hel1
  have hel := he.get 0 rfl
  have hle := g0.ends (by decide)
  walk_at "on"
  refine dr he (by omega) (bt64 (by omega)) fun d M5 d0 d1 he => ?_
  have hel := he.get 0 rfl
  rw [ell] at d1
  obtain ⟨o, ho, hoa⟩ := str_mem d0 d1
  walk_at "on"
  refine ⟨fun σ M' => ∃ o : Str, σ = [some (.ref a), some (.ref s), some (gameV hs ht), some (gameV gs gt), some (gameV ts tt), some (.ref el), some (.str o), none, none, none, none, none, none, none, none] ∧ He K [] a s ns M1 M' [(el, .lst ((endsT ht).map PV.str))], ?_, ?_⟩
  · walk_at "on"
    refine dr he (by decide) (by decide) fun d M6 d0 d1 he => ?_
    walk_at "on"
    refine br_dec (fun h => ?_) (fun h => ?_)
    · walk_at "on"
      refine al he fun u hu he => ?_
      replace he := he (.lst [])
      walk_at "on"
      refine ⟨a, s, u, ns, [], rfl, he.env, .inl (he.get 0 rfl), he.ne_s 0 rfl, by decide, fun x M7 nx nin e7 k7 => ?_⟩
      replace he := he.call e7 k7
      exact ⟨_, _, by walk_at "subs", .refl _, x, rfl, he.d0⟩
    · exact ⟨_, _, by walk_at "subs", .refl _, o, rfl, he⟩
  clear he hel hoa ho d0 d1
  rintro σ M6 ⟨o, rfl, he⟩
  have hw := g0.w
  have gw := gg.w
  have tw := gh.w
  have ndp : (namesOf (hs ++ gs)).Nodup := by
    rw [namesOf, List.map_append] at nd0
    exact (List.nodup_append.mp nd0).1
  have djg := dj_of ndp
  have djt : ∀ n ∈ namesOf ts, n ∉ namesOf (hs ++ gs) := dj_of nd0
  have djgt : ∀ n ∈ namesOf ts, n ∉ namesOf gs := fun n h1 h2 => djt n h1 (by rw [namesOf, List.map_append]; exact List.mem_append_right _ h2)
  have djht : ∀ n ∈ namesOf ts, n ∉ namesOf hs := fun n h1 h2 => djt n h1 (by rw [namesOf, List.map_append]; exact List.mem_append_left _ h2)
  walk_at "on"
  refine ⟨hs, gs, ht, gt, o, rfl, by omega, by omega, gg.nm, hw.ws gw, hw.bt.mono (by omega), g0.sn.nodup, gg.sn.nodup, fun _ q1 pm1 sn1 => ?_, fun cm => absurd cm.choose_spec.2 (djg _ cm.choose_spec.1)⟩
  have w1 := hw.sub (o := o) gw pm1 sn1
  have p1 := w1.pl (by omega) (by omega)
  walk_at "on"
  refine ⟨fun b M' => b = false ∧ M' = M6, ?_, ?_⟩
  · walk_at "on"
    refine ⟨_, rfl, p1.mono (by decide), ?_⟩
    walk_at "on"
    refine ⟨hs, gs, ht, gt, o, rfl, by omega, by omega, hw.ws gw, hw.bt.mono (by omega), g0.sn.nodup, gg.sn.nodup, djg, fun q2 pm2 sn2 => ?_⟩
    have e := SortedN.eq (pm2.trans pm1.symm) sn2 sn1
    subst e
    walk_at "on"
    refine ⟨p1.txt, p1.txt, fun b hb => ?_⟩
    have hb : b = false := by cases b <;> simp_all
    subst hb
    exact ⟨_, .refl _, rfl, rfl⟩
  rintro b M7 ⟨rfl, rfl⟩
  have hp2 := ends_pos gg.tok gg.w1
  have ill : ((endsT gt).map PV.str).length = (endsT gt).length := List.length_map _
  walk_at "on"
  refine ⟨gt, rfl, gg.bt.mono (by decide), gg.ends (by decide), fun il M8 hil0 hil1 sb8 => ?_⟩
  replace he := he.addn sb8 hil0 hil1
  have hil := he.get 0 rfl
  have hle2 := gg.ends (by decide)
  walk_at "on"
  refine dr he (by omega) (bt64 (by omega)) fun d M9 d0 d1 he => ?_
  have hil := he.get 0 rfl
  rw [ill] at d1
  obtain ⟨p, hpm, hpa⟩ := str_mem d0 d1
  walk_at "on"
  refine ⟨gs, ts, gt, tt, p, rfl, by omega, by omega, gh.nm, gw.ws tw, gw.bt.mono (by omega), gg.sn.nodup, gh.sn.nodup, fun _ q3 pm3 sn3 => ?_, fun cm => absurd cm.choose_spec.2 (djgt _ cm.choose_spec.1)⟩
  have w3 := gw.sub (o := p) tw pm3 sn3
  have p3 := w3.pl (by omega) (by omega)
  walk_at "on"
  refine ⟨fun b M' => b = false ∧ M' = M9, ?_, ?_⟩
  · walk_at "on"
    refine ⟨_, rfl, p3.mono (by decide), ?_⟩
    walk_at "on"
    refine ⟨gs, ts, gt, tt, p, rfl, by omega, by omega, gw.ws tw, gw.bt.mono (by omega), gg.sn.nodup, gh.sn.nodup, djgt, fun q2 pm2 sn2 => ?_⟩
    have e := SortedN.eq (pm2.trans pm3.symm) sn2 sn3
    subst e
    walk_at "on"
    refine ⟨p3.txt, p3.txt, fun b hb => ?_⟩
    have hb : b = false := by cases b <;> simp_all
    subst hb
    exact ⟨_, .refl _, rfl, rfl⟩
  rintro b M10 ⟨rfl, rfl⟩
  have l1 : q1.length = hs.length + gs.length := by rw [pm1.length_eq, List.length_append]
  have l3 : q3.length = gs.length + ts.length := by rw [pm3.length_eq, List.length_append]
  have dj1 : ∀ n ∈ namesOf ts, n ∉ namesOf q1 := fun n h1 h2 => djt n h1 ((pm1.map Row.nm).mem_iff.mp h2)
  have dj3 : ∀ n ∈ namesOf q3, n ∉ namesOf hs := fun n h1 h2 => by
    have := (pm3.map Row.nm).mem_iff.mp h1
    rw [List.map_append] at this
    rcases List.mem_append.mp this with z | z
    · exact djg n z h2
    · exact djht n z h2
  walk_at "on"
  refine ⟨q1, ts, _, tt, p, rfl, by omega, by omega, gh.nm, w1.ws tw, w1.bt.mono (by omega), sn1.nodup, gh.sn.nodup, fun _ q4 pm4 sn4 => ?_, fun cm => absurd cm.choose_spec.2 (dj1 _ cm.choose_spec.1)⟩
  have w4 := w1.sub (o := p) tw pm4 sn4
  have p4 := w4.pl (by omega) (by omega)
  walk_at "on"
  refine ⟨hs, q3, ht, _, o, rfl, by omega, by omega, w3.nm, hw.ws w3, hw.bt.mono (by omega), g0.sn.nodup, sn3.nodup, fun _ q5 pm5 sn5 => ?_, fun cm => absurd cm.choose_spec.2 (dj3 _ cm.choose_spec.1)⟩
  have w5 := hw.sub (o := o) w3 pm5 sn5
  have p5 := w5.pl (by omega) (by omega)
  walk_at "on"
  refine ⟨fun b M' => b = false ∧ M' = M10, ?_, ?_⟩
  · walk_at "on"
    refine ⟨q1, ts, _, tt, p, rfl, by omega, by omega, w1.ws tw, w1.bt.mono (by omega), sn1.nodup, gh.sn.nodup, dj1, fun q2 pm2 sn2 => ?_⟩
    have e := SortedN.eq (pm2.trans pm4.symm) sn2 sn4
    subst e
    walk_at "on"
    refine ⟨p4.txt, p4.txt, fun b hb => ?_⟩
    have hb : b = false := by cases b <;> simp_all
    subst hb
    walk_at "on"
    refine ⟨hs, q3, ht, _, o, rfl, by omega, by omega, hw.ws w3, hw.bt.mono (by omega), g0.sn.nodup, sn3.nodup, dj3, fun q2 pm2 sn2 => ?_⟩
    have e := SortedN.eq (pm2.trans pm5.symm) sn2 sn5
    subst e
    walk_at "on"
    refine ⟨p5.txt, p5.txt, fun b hb => ?_⟩
    have hb : b = false := by cases b <;> simp_all
    subst hb
    exact ⟨_, .refl _, rfl, rfl⟩
  rintro b M11 ⟨rfl, rfl⟩
  have e45 : q4 = q5 := by
    refine SortedN.eq ((pm4.trans (pm1.append_right ts)).trans (List.Perm.symm ((pm5.trans (pm3.append_left hs)).trans ?_))) sn4 sn5
    rw [List.append_assoc]
  have hel := he.get 1 rfl
  have fin : (p = o ∨ p ∉ endsT ht) → gameV q4 (subT p tt (subT o gt ht)) = gameV q5 (subT o (subT p tt gt) ht) := fun q => by rw [e45, subT_assoc q]
  walk_at "on"
  refine ⟨fun b M' => b = false ∧ M' = M11, ?_, ?_⟩
  · walk_at "on"
    refine ⟨.str _, .str _, fun b hb => ?_⟩
    have hb2 : b = true ↔ p = o := hb.trans ⟨fun e => by injection e, fun e => by rw [e]⟩
    cases b with
    | true =>
      have f := fin (.inl (hb2.mp rfl))
      walk_at "on"
      refine ⟨p4.txt, p5.txt, fun b hb => ?_⟩
      have hb : b = false := by cases b <;> simp_all
      subst hb
      exact ⟨_, .refl _, rfl, rfl⟩
    | false =>
      walk_at "on"
      refine br_ndec (fun h => ?_) (fun h => ?_)
      · have f := fin (.inr h)
        walk_at "on"
        refine ⟨p4.txt, p5.txt, fun b hb => ?_⟩
        have hb : b = false := by cases b <;> simp_all
        subst hb
        exact ⟨_, .refl _, rfl, rfl⟩
      · exact ⟨_, .refl _, rfl, rfl⟩
  rintro b M12 ⟨rfl, rfl⟩
  replace he := he.nil
  clear hel hil hp hp2 ell ill hle hle2 hpa hpm d0 d1 sb4 sb8 hel0 hel1 hil0 hil1
  walk_at "on"
  refine ⟨fun σ M' => σ = [some (.ref a), some (.ref s), some (gameV hs ht), some (gameV gs gt), some (gameV ts tt), none, some (.str o), some (gameV q1 (subT o gt ht)), none, none, none, none, none, none, none] ∧ He K [] a s ns M1 M' [], ?_, ?_⟩
  · walk_at "on"
    refine br_dec (fun h => ?_) (fun h => ?_)
    · walk_at "on"
      refine ⟨a, s, ns, us, hs, gs, _, gt, rfl, fun q => ?_, by omega, g0.nm, gg, he.env, fun q6 t6 M13 g6 cm e6 k6 => ?_⟩
      · subst q; simp at h
      replace he := he.call e6 k6
      walk_at "on"
      refine ⟨fun b M' => b = false ∧ He K [] a s ns M1 M' [], ?_, ?_⟩
      · walk_at "on"
        refine ⟨hs, q6, ht, t6, us, us, 7, 10, o, rfl, g0, g6, by decide, by decide, cm, fun M14 sb => ?_⟩
        replace he := he.step sb
        walk_at "on"
        refine ⟨q6, hs, t6, ht, us, us, 10, 7, p, rfl, g6, g0, by decide, by decide, cm.imp fun n q => ⟨q.2, q.1⟩, fun M15 sb => ?_⟩
        replace he := he.step sb
        walk_at "on"
        exact ⟨_, .refl _, rfl, he⟩
      clear he
      rintro b M14 ⟨rfl, he⟩
      walk_at "on"
      refine ⟨hs, q6, ht, t6, us, us, o, rfl, g0, g6, fun M15 sb => ?_⟩
      replace he := he.step sb
      walk_at "on"
      exact ⟨_, _, by walk_at "subs", .refl _, rfl, he⟩
    · exact ⟨_, _, by walk_at "subs", .refl _, rfl, he⟩
  clear he
  rintro σ M13 ⟨rfl, he⟩
  walk_at "on"
  refine ⟨hs, gs, ht, gt, us, us, o, rfl, g0, gg.mono (by decide), fun M15 sb => ?_⟩
  replace he := he.step sb
  walk_at "on"
  refine ⟨hs, gs, ht, gt, o, rfl, by omega, by omega, gg.nm, hw.ws gw, hw.bt.mono (by omega), g0.sn.nodup, gg.sn.nodup, fun _ q2 pm2 sn2 => ?_, fun cm => absurd cm.choose_spec.2 (djg _ cm.choose_spec.1)⟩
  have e := SortedN.eq (pm2.trans pm1.symm) sn2 sn1
  subst e
  walk_at "on"
  refine ⟨p1.txt, p1.txt, fun b hb => ?_⟩
  have hb : b = true := by cases b <;> simp_all
  subst hb
  exact ⟨M, k0 _ he.keep, k⟩

theorem all_mk {P : Program} {w : World} {K : Kf} {h : Heap} {mg : Str → Option Value} {fa f1 f2 f3 f4 f5 f6 f7 f8 f9 f10 f11 f12 f13 f14 f15 f16 f17 f18 f19 f20 f21 f22 f23 f24 f25 f26 f27 f28 f29 f30 f31 f32 f33 f34 f35 f36 f37 f38 cC_Derivation cC_Draft cX_GameError cX_BadPath cX_BadStep cX_BadDerivation cX_NamesMeet : Addr} (X : K.In h) (G : h.Ns mainGlobals mg) (hfa : mg "law" = some (.ref fa))
    {od1 an1 od2 an2 od3 an3 od4 an4 od5 an5 od6 an6 od7 an7 od8 an8 od9 an9 od10 an10 od11 an11 od12 an12 od13 an13 od14 an14 od15 an15 od16 an16 od17 an17 od18 an18 od19 an19 od20 an20 od21 an21 od22 an22 od23 an23 od24 an24 od25 an25 od26 an26 od27 an27 od28 an28 od29 an29 od30 an30 od31 an31 od32 an32 od33 an33 od34 an34 od35 an35 od36 an36 od37 an37 od38 an38 : Option Addr} {sl1 sl2 sl3 sl4 sl5 sl6 sl7 sl8 sl9 sl10 sl11 sl12 sl13 sl14 sl15 sl16 sl17 sl18 sl19 sl20 sl21 sl22 sl23 sl24 sl25 sl26 sl27 sl28 sl29 sl30 sl31 sl32 sl33 sl34 sl35 sl36 sl37 sl38 : Array (Option Value)} {oc1 kV1 dc1 pm1 cd1 ct1 oc2 kV2 dc2 pm2 cd2 ct2 oc3 kV3 dc3 pm3 cd3 ct3 oc4 kV4 dc4 pm4 cd4 ct4 oc5 kV5 dc5 pm5 cd5 ct5 oc6 kV6 dc6 pm6 cd6 ct6 oc7 kV7 dc7 pm7 cd7 ct7 oc8 kV8 dc8 pm8 cd8 ct8 oc9 kV9 dc9 pm9 cd9 ct9 oc10 kV10 dc10 pm10 cd10 ct10 oc11 kV11 dc11 pm11 cd11 ct11 oc12 kV12 dc12 pm12 cd12 ct12 oc13 kV13 dc13 pm13 cd13 ct13 oc14 kV14 dc14 pm14 cd14 ct14 oc15 kV15 dc15 pm15 cd15 ct15 oc16 kV16 dc16 pm16 cd16 ct16 oc17 kV17 dc17 pm17 cd17 ct17 oc18 kV18 dc18 pm18 cd18 ct18 oc19 kV19 dc19 pm19 cd19 ct19 oc20 kV20 dc20 pm20 cd20 ct20 oc21 kV21 dc21 pm21 cd21 ct21 oc22 kV22 dc22 pm22 cd22 ct22 oc23 kV23 dc23 pm23 cd23 ct23 oc24 kV24 dc24 pm24 cd24 ct24 oc25 kV25 dc25 pm25 cd25 ct25 oc26 kV26 dc26 pm26 cd26 ct26 oc27 kV27 dc27 pm27 cd27 ct27 oc28 kV28 dc28 pm28 cd28 ct28 oc29 kV29 dc29 pm29 cd29 ct29 oc30 kV30 dc30 pm30 cd30 ct30 oc31 kV31 dc31 pm31 cd31 ct31 oc32 kV32 dc32 pm32 cd32 ct32 oc33 kV33 dc33 pm33 cd33 ct33 oc34 kV34 dc34 pm34 cd34 ct34 oc35 kV35 dc35 pm35 cd35 ct35 oc36 kV36 dc36 pm36 cd36 ct36 oc37 kV37 dc37 pm37 cd37 ct37 oc38 kV38 dc38 pm38 cd38 ct38 : Value} {tk_DIGITS : Tok} {tk_LETTERS : Tok} {tk_LONGEST_NAME : Tok} {tk_MOST_MOVES : Tok} 
    (ca_Derivation : PySem.W.nsIn K mainGlobals "Derivation" = some (some (.ref cC_Derivation))) (cp_Derivation : PySem.W.plainGet K cC_Derivation Str.empty = true) (ch_Derivation : PySem.W.hasDictIn K cC_Derivation = true) (co_Derivation : PySem.W.plainOver K cC_Derivation = true) (cs_Derivation : PySem.W.findIn K (.ref cC_Derivation) "__setattr__" = some (some (.builtin "object.__setattr__"))) (cm_Derivation : PySem.W.makesIn K cC_Derivation = true) (ck_Derivation : PySem.W.keepIn K (.ref cC_Derivation) = true)
    (cf_Derivation_start : PySem.W.findIn K (.ref cC_Derivation) "start" = some none)
    (cf_Derivation_end : PySem.W.findIn K (.ref cC_Derivation) "end" = some none)
    (cf_Derivation_steps : PySem.W.findIn K (.ref cC_Derivation) "steps" = some none)
    (cf_Derivation_back : PySem.W.findIn K (.ref cC_Derivation) "back" = some none)
    (cf_Derivation__stage_rows : PySem.W.findIn K (.ref cC_Derivation) "_stage_rows" = some none)
    (ca_Draft : PySem.W.nsIn K mainGlobals "Draft" = some (some (.ref cC_Draft))) (cp_Draft : PySem.W.plainGet K cC_Draft Str.empty = true) (ch_Draft : PySem.W.hasDictIn K cC_Draft = true) (co_Draft : PySem.W.plainOver K cC_Draft = true) (cs_Draft : PySem.W.findIn K (.ref cC_Draft) "__setattr__" = some (some (.builtin "object.__setattr__"))) (cm_Draft : PySem.W.makesIn K cC_Draft = true) (ck_Draft : PySem.W.keepIn K (.ref cC_Draft) = true)
    (cf_Draft_start : PySem.W.findIn K (.ref cC_Draft) "start" = some none)
    (cf_Draft_game : PySem.W.findIn K (.ref cC_Draft) "game" = some none)
    (cf_Draft__done_steps : PySem.W.findIn K (.ref cC_Draft) "_done_steps" = some none)
    (cf_Draft__back_steps : PySem.W.findIn K (.ref cC_Draft) "_back_steps" = some none)
    (cf_Draft__rows_so_far : PySem.W.findIn K (.ref cC_Draft) "_rows_so_far" = some none)
    (xa_GameError : PySem.W.nsIn K mainGlobals "GameError" = some (some (.ref cX_GameError)))
    (xa_BadPath : PySem.W.nsIn K mainGlobals "BadPath" = some (some (.ref cX_BadPath)))
    (xa_BadStep : PySem.W.nsIn K mainGlobals "BadStep" = some (some (.ref cX_BadStep)))
    (xa_BadDerivation : PySem.W.nsIn K mainGlobals "BadDerivation" = some (some (.ref cX_BadDerivation)))
    (xa_NamesMeet : PySem.W.nsIn K mainGlobals "NamesMeet" = some (some (.ref cX_NamesMeet)))
    (xq_BadStep : PySem.W.excIn K cX_BadStep [.type "ValueError", .type "Exception", .type "BaseException", .type "object"] "ValueError.__new__" = true) (xk_BadStep : PySem.W.keepIn K (.ref cX_BadStep) = true) (xs_BadStep : PySem.W.subIn K (.ref cX_BadStep) (.type "BaseException") = some true) (xt_BadStep : PySem.W.typeIn K (.ref cX_BadStep) = some (.type "type")) (xh_BadStep : PySem.W.hasDictIn K cX_BadStep = true)
    (xq_NamesMeet : PySem.W.excIn K cX_NamesMeet [.type "ValueError", .type "Exception", .type "BaseException", .type "object"] "ValueError.__new__" = true) (xk_NamesMeet : PySem.W.keepIn K (.ref cX_NamesMeet) = true) (xs_NamesMeet : PySem.W.subIn K (.ref cX_NamesMeet) (.type "BaseException") = some true) (xt_NamesMeet : PySem.W.typeIn K (.ref cX_NamesMeet) = some (.type "type")) (xh_NamesMeet : PySem.W.hasDictIn K cX_NamesMeet = true)
    (xg_NamesMeet : PySem.W.findIn K (.ref cX_NamesMeet) "__getattribute__" = some (some (.builtin "BaseException.__getattribute__"))) (xG_NamesMeet : PySem.W.findIn K (.ref cX_NamesMeet) "__getattr__" = some none) (xA_NamesMeet : PySem.W.findIn K (.ref cX_NamesMeet) "__class__" = some (some (.builtin "object.__class__"))) (xN_NamesMeet : PySem.W.specialIn K (.builtin "object.__class__") "__get__" = some (some (.builtin "getset_descriptor.__get__"))) (xT_NamesMeet : PySem.W.takesIn K (.builtin "object.__class__") = some true) (xM_NamesMeet : PySem.W.mroIn K cX_NamesMeet (.type "object") = some true)
    (xm_NamesMeet : PySem.W.subIn K (.ref cX_NamesMeet) (.ref cX_NamesMeet) = some true)
    (xi_NamesMeet_GameError : PySem.W.kitOne K (.ref cX_NamesMeet) (.ref cX_GameError) = some true)
    (xi_NamesMeet_ValueError : PySem.W.kitOne K (.ref cX_NamesMeet) (.type "ValueError") = some true)
    (xi_NamesMeet_BadStep : PySem.W.kitOne K (.ref cX_NamesMeet) (.ref cX_BadStep) = some false)
    (a1 : PySem.W.nsIn K mainGlobals "_law_draw" = some (some (.ref f1)))
    (l1 : K.lookup f1 = some ⟨oc1, od1, .func (PySem.W.fnOf "_law_draw" "_law_draw" (defArgs s__law_draw) (defBody s__law_draw) (defScope s__law_draw) .none kV1 dc1 pm1 an1 cd1 ct1), sl1⟩) (c1 : PySem.W.codeIn K cd1 "_law_draw" = true) (k1 : PySem.W.keepIn K (.ref f1) = true)
    (a2 : PySem.W.nsIn K mainGlobals "_law_source" = some (some (.ref f2)))
    (l2 : K.lookup f2 = some ⟨oc2, od2, .func (PySem.W.fnOf "_law_source" "_law_source" (defArgs s__law_source) (defBody s__law_source) (defScope s__law_source) .none kV2 dc2 pm2 an2 cd2 ct2), sl2⟩) (c2 : PySem.W.codeIn K cd2 "_law_source" = true) (k2 : PySem.W.keepIn K (.ref f2) = true)
    (a3 : PySem.W.nsIn K mainGlobals "_law_gcd" = some (some (.ref f3)))
    (l3 : K.lookup f3 = some ⟨oc3, od3, .func (PySem.W.fnOf "_law_gcd" "_law_gcd" (defArgs s__law_gcd) (defBody s__law_gcd) (defScope s__law_gcd) .none kV3 dc3 pm3 an3 cd3 ct3), sl3⟩) (c3 : PySem.W.codeIn K cd3 "_law_gcd" = true) (k3 : PySem.W.keepIn K (.ref f3) = true)
    (a4 : PySem.W.nsIn K mainGlobals "_law_reduced" = some (some (.ref f4)))
    (l4 : K.lookup f4 = some ⟨oc4, od4, .func (PySem.W.fnOf "_law_reduced" "_law_reduced" (defArgs s__law_reduced) (defBody s__law_reduced) (defScope s__law_reduced) .none kV4 dc4 pm4 an4 cd4 ct4), sl4⟩) (c4 : PySem.W.codeIn K cd4 "_law_reduced" = true) (k4 : PySem.W.keepIn K (.ref f4) = true)
    (a5 : PySem.W.nsIn K mainGlobals "_law_name" = some (some (.ref f5)))
    (l5 : K.lookup f5 = some ⟨oc5, od5, .func (PySem.W.fnOf "_law_name" "_law_name" (defArgs s__law_name) (defBody s__law_name) (defScope s__law_name) .none kV5 dc5 pm5 an5 cd5 ct5), sl5⟩) (c5 : PySem.W.codeIn K cd5 "_law_name" = true) (k5 : PySem.W.keepIn K (.ref f5) = true)
    (a6 : PySem.W.nsIn K mainGlobals "row_of" = some (some (.ref f6)))
    (l6 : K.lookup f6 = some ⟨oc6, od6, .func (PySem.W.fnOf "row_of" "row_of" (defArgs s_row_of) (defBody s_row_of) (defScope s_row_of) .none kV6 dc6 pm6 an6 cd6 ct6), sl6⟩) (c6 : PySem.W.codeIn K cd6 "row_of" = true) (k6 : PySem.W.keepIn K (.ref f6) = true)
    (a7 : PySem.W.nsIn K mainGlobals "_law_sets" = some (some (.ref f7)))
    (l7 : K.lookup f7 = some ⟨oc7, od7, .func (PySem.W.fnOf "_law_sets" "_law_sets" (defArgs s__law_sets) (defBody s__law_sets) (defScope s__law_sets) .none kV7 dc7 pm7 an7 cd7 ct7), sl7⟩) (c7 : PySem.W.codeIn K cd7 "_law_sets" = true) (k7 : PySem.W.keepIn K (.ref f7) = true)
    (a8 : PySem.W.nsIn K mainGlobals "_law_tree" = some (some (.ref f8)))
    (l8 : K.lookup f8 = some ⟨oc8, od8, .func (PySem.W.fnOf "_law_tree" "_law_tree" (defArgs s__law_tree) (defBody s__law_tree) (defScope s__law_tree) .none kV8 dc8 pm8 an8 cd8 ct8), sl8⟩) (c8 : PySem.W.codeIn K cd8 "_law_tree" = true) (k8 : PySem.W.keepIn K (.ref f8) = true)
    (a9 : PySem.W.nsIn K mainGlobals "is_name" = some (some (.ref f9)))
    (l9 : K.lookup f9 = some ⟨oc9, od9, .func (PySem.W.fnOf "is_name" "is_name" (defArgs s_is_name) (defBody s_is_name) (defScope s_is_name) .none kV9 dc9 pm9 an9 cd9 ct9), sl9⟩) (c9 : PySem.W.codeIn K cd9 "is_name" = true) (k9 : PySem.W.keepIn K (.ref f9) = true)
    (a10 : PySem.W.nsIn K mainGlobals "is_new_name" = some (some (.ref f10)))
    (l10 : K.lookup f10 = some ⟨oc10, od10, .func (PySem.W.fnOf "is_new_name" "is_new_name" (defArgs s_is_new_name) (defBody s_is_new_name) (defScope s_is_new_name) .none kV10 dc10 pm10 an10 cd10 ct10), sl10⟩) (c10 : PySem.W.codeIn K cd10 "is_new_name" = true) (k10 : PySem.W.keepIn K (.ref f10) = true)
    (a11 : PySem.W.nsIn K mainGlobals "without_row" = some (some (.ref f11)))
    (l11 : K.lookup f11 = some ⟨oc11, od11, .func (PySem.W.fnOf "without_row" "without_row" (defArgs s_without_row) (defBody s_without_row) (defScope s_without_row) .none kV11 dc11 pm11 an11 cd11 ct11), sl11⟩) (c11 : PySem.W.codeIn K cd11 "without_row" = true) (k11 : PySem.W.keepIn K (.ref f11) = true)
    (a12 : PySem.W.nsIn K mainGlobals "with_row" = some (some (.ref f12)))
    (l12 : K.lookup f12 = some ⟨oc12, od12, .func (PySem.W.fnOf "with_row" "with_row" (defArgs s_with_row) (defBody s_with_row) (defScope s_with_row) .none kV12 dc12 pm12 an12 cd12 ct12), sl12⟩) (c12 : PySem.W.codeIn K cd12 "with_row" = true) (k12 : PySem.W.keepIn K (.ref f12) = true)
    (a13 : PySem.W.nsIn K mainGlobals "relabelled" = some (some (.ref f13)))
    (l13 : K.lookup f13 = some ⟨oc13, od13, .func (PySem.W.fnOf "relabelled" "relabelled" (defArgs s_relabelled) (defBody s_relabelled) (defScope s_relabelled) .none kV13 dc13 pm13 an13 cd13 ct13), sl13⟩) (c13 : PySem.W.codeIn K cd13 "relabelled" = true) (k13 : PySem.W.keepIn K (.ref f13) = true)
    (a14 : PySem.W.nsIn K mainGlobals "renamed" = some (some (.ref f14)))
    (l14 : K.lookup f14 = some ⟨oc14, od14, .func (PySem.W.fnOf "renamed" "renamed" (defArgs s_renamed) (defBody s_renamed) (defScope s_renamed) .none kV14 dc14 pm14 an14 cd14 ct14), sl14⟩) (c14 : PySem.W.codeIn K cd14 "renamed" = true) (k14 : PySem.W.keepIn K (.ref f14) = true)
    (a15 : PySem.W.nsIn K mainGlobals "fresh_names" = some (some (.ref f15)))
    (l15 : K.lookup f15 = some ⟨oc15, od15, .func (PySem.W.fnOf "fresh_names" "fresh_names" (defArgs s_fresh_names) (defBody s_fresh_names) (defScope s_fresh_names) .none kV15 dc15 pm15 an15 cd15 ct15), sl15⟩) (c15 : PySem.W.codeIn K cd15 "fresh_names" = true) (k15 : PySem.W.keepIn K (.ref f15) = true)
    (a16 : PySem.W.nsIn K mainGlobals "_law_plain" = some (some (.ref f16)))
    (l16 : K.lookup f16 = some ⟨oc16, od16, .func (PySem.W.fnOf "_law_plain" "_law_plain" (defArgs s__law_plain) (defBody s__law_plain) (defScope s__law_plain) .none kV16 dc16 pm16 an16 cd16 ct16), sl16⟩) (c16 : PySem.W.codeIn K cd16 "_law_plain" = true) (k16 : PySem.W.keepIn K (.ref f16) = true)
    (a17 : PySem.W.nsIn K mainGlobals "apply_step" = some (some (.ref f17)))
    (l17 : K.lookup f17 = some ⟨oc17, od17, .func (PySem.W.fnOf "apply_step" "apply_step" (defArgs s_apply_step) (defBody s_apply_step) (defScope s_apply_step) .none kV17 dc17 pm17 an17 cd17 ct17), sl17⟩) (c17 : PySem.W.codeIn K cd17 "apply_step" = true) (k17 : PySem.W.keepIn K (.ref f17) = true)
    (a18 : PySem.W.nsIn K mainGlobals "turned_step" = some (some (.ref f18)))
    (l18 : K.lookup f18 = some ⟨oc18, od18, .func (PySem.W.fnOf "turned_step" "turned_step" (defArgs s_turned_step) (defBody s_turned_step) (defScope s_turned_step) .none kV18 dc18 pm18 an18 cd18 ct18), sl18⟩) (c18 : PySem.W.codeIn K cd18 "turned_step" = true) (k18 : PySem.W.keepIn K (.ref f18) = true)
    (a19 : PySem.W.findIn K (.ref cC_Draft) "__init__" = some (some (.ref f19))) (i19 : PySem.W.isFn K (.ref f19) = true)
    (l19 : K.lookup f19 = some ⟨oc19, od19, .func (PySem.W.fnOf "__init__" "Draft.__init__" (defArgs s_Draft___init__) (defBody s_Draft___init__) (defScope s_Draft___init__) .none kV19 dc19 pm19 an19 cd19 ct19), sl19⟩) (c19 : PySem.W.codeIn K cd19 "Draft.__init__" = true) (k19 : PySem.W.keepIn K (.ref f19) = true)
    (a20 : PySem.W.findIn K (.ref cC_Draft) "do" = some (some (.ref f20))) (i20 : PySem.W.isFn K (.ref f20) = true)
    (l20 : K.lookup f20 = some ⟨oc20, od20, .func (PySem.W.fnOf "do" "Draft.do" (defArgs s_Draft_do) (defBody s_Draft_do) (defScope s_Draft_do) .none kV20 dc20 pm20 an20 cd20 ct20), sl20⟩) (c20 : PySem.W.codeIn K cd20 "Draft.do" = true) (k20 : PySem.W.keepIn K (.ref f20) = true)
    (a21 : PySem.W.findIn K (.ref cC_Derivation) "__init__" = some (some (.ref f21))) (i21 : PySem.W.isFn K (.ref f21) = true)
    (l21 : K.lookup f21 = some ⟨oc21, od21, .func (PySem.W.fnOf "__init__" "Derivation.__init__" (defArgs s_Derivation___init__) (defBody s_Derivation___init__) (defScope s_Derivation___init__) .none kV21 dc21 pm21 an21 cd21 ct21), sl21⟩) (c21 : PySem.W.codeIn K cd21 "Derivation.__init__" = true) (k21 : PySem.W.keepIn K (.ref f21) = true)
    (a22 : PySem.W.findIn K (.ref cC_Draft) "done" = some (some (.ref f22))) (i22 : PySem.W.isFn K (.ref f22) = true)
    (l22 : K.lookup f22 = some ⟨oc22, od22, .func (PySem.W.fnOf "done" "Draft.done" (defArgs s_Draft_done) (defBody s_Draft_done) (defScope s_Draft_done) .none kV22 dc22 pm22 an22 cd22 ct22), sl22⟩) (c22 : PySem.W.codeIn K cd22 "Draft.done" = true) (k22 : PySem.W.keepIn K (.ref f22) = true)
    (a23 : PySem.W.nsIn K mainGlobals "apart" = some (some (.ref f23)))
    (l23 : K.lookup f23 = some ⟨oc23, od23, .func (PySem.W.fnOf "apart" "apart" (defArgs s_apart) (defBody s_apart) (defScope s_apart) .none kV23 dc23 pm23 an23 cd23 ct23), sl23⟩) (c23 : PySem.W.codeIn K cd23 "apart" = true) (k23 : PySem.W.keepIn K (.ref f23) = true)
    (a24 : PySem.W.nsIn K mainGlobals "_with_guest" = some (some (.ref f24)))
    (l24 : K.lookup f24 = some ⟨oc24, od24, .func (PySem.W.fnOf "_with_guest" "_with_guest" (defArgs s__with_guest) (defBody s__with_guest) (defScope s__with_guest) .none kV24 dc24 pm24 an24 cd24 ct24), sl24⟩) (c24 : PySem.W.codeIn K cd24 "_with_guest" = true) (k24 : PySem.W.keepIn K (.ref f24) = true)
    (a25 : PySem.W.nsIn K mainGlobals "_law_grown" = some (some (.ref f25)))
    (l25 : K.lookup f25 = some ⟨oc25, od25, .func (PySem.W.fnOf "_law_grown" "_law_grown" (defArgs s__law_grown) (defBody s__law_grown) (defScope s__law_grown) .none kV25 dc25 pm25 an25 cd25 ct25), sl25⟩) (c25 : PySem.W.codeIn K cd25 "_law_grown" = true) (k25 : PySem.W.keepIn K (.ref f25) = true)
    (a26 : PySem.W.nsIn K mainGlobals "_keep_apart" = some (some (.ref f26)))
    (l26 : K.lookup f26 = some ⟨oc26, od26, .func (PySem.W.fnOf "_keep_apart" "_keep_apart" (defArgs s__keep_apart) (defBody s__keep_apart) (defScope s__keep_apart) .none kV26 dc26 pm26 an26 cd26 ct26), sl26⟩) (c26 : PySem.W.codeIn K cd26 "_keep_apart" = true) (k26 : PySem.W.keepIn K (.ref f26) = true)
    (a27 : PySem.W.nsIn K mainGlobals "substitute" = some (some (.ref f27)))
    (l27 : K.lookup f27 = some ⟨oc27, od27, .func (PySem.W.fnOf "substitute" "substitute" (defArgs s_substitute) (defBody s_substitute) (defScope s_substitute) .none kV27 dc27 pm27 an27 cd27 ct27), sl27⟩) (c27 : PySem.W.codeIn K cd27 "substitute" = true) (k27 : PySem.W.keepIn K (.ref f27) = true)
    (a28 : PySem.W.nsIn K mainGlobals "_law_whole" = some (some (.ref f28)))
    (l28 : K.lookup f28 = some ⟨oc28, od28, .func (PySem.W.fnOf "_law_whole" "_law_whole" (defArgs s__law_whole) (defBody s__law_whole) (defScope s__law_whole) .none kV28 dc28 pm28 an28 cd28 ct28), sl28⟩) (c28 : PySem.W.codeIn K cd28 "_law_whole" = true) (k28 : PySem.W.keepIn K (.ref f28) = true)
    (a29 : PySem.W.nsIn K mainGlobals "_law_ends" = some (some (.ref f29)))
    (l29 : K.lookup f29 = some ⟨oc29, od29, .func (PySem.W.fnOf "_law_ends" "_law_ends" (defArgs s__law_ends) (defBody s__law_ends) (defScope s__law_ends) .none kV29 dc29 pm29 an29 cd29 ct29), sl29⟩) (c29 : PySem.W.codeIn K cd29 "_law_ends" = true) (k29 : PySem.W.keepIn K (.ref f29) = true)
    (a30 : PySem.W.nsIn K mainGlobals "_law_new" = some (some (.ref f30)))
    (l30 : K.lookup f30 = some ⟨oc30, od30, .func (PySem.W.fnOf "_law_new" "_law_new" (defArgs s__law_new) (defBody s__law_new) (defScope s__law_new) .none kV30 dc30 pm30 an30 cd30 ct30), sl30⟩) (c30 : PySem.W.codeIn K cd30 "_law_new" = true) (k30 : PySem.W.keepIn K (.ref f30) = true)
    (a31 : PySem.W.nsIn K mainGlobals "_law_called" = some (some (.ref f31)))
    (l31 : K.lookup f31 = some ⟨oc31, od31, .func (PySem.W.fnOf "_law_called" "_law_called" (defArgs s__law_called) (defBody s__law_called) (defScope s__law_called) .none kV31 dc31 pm31 an31 cd31 ct31), sl31⟩) (c31 : PySem.W.codeIn K cd31 "_law_called" = true) (k31 : PySem.W.keepIn K (.ref f31) = true)
    (a32 : PySem.W.nsIn K mainGlobals "_law_renames" = some (some (.ref f32)))
    (l32 : K.lookup f32 = some ⟨oc32, od32, .func (PySem.W.fnOf "_law_renames" "_law_renames" (defArgs s__law_renames) (defBody s__law_renames) (defScope s__law_renames) .none kV32 dc32 pm32 an32 cd32 ct32), sl32⟩) (c32 : PySem.W.codeIn K cd32 "_law_renames" = true) (k32 : PySem.W.keepIn K (.ref f32) = true)
    (a33 : PySem.W.nsIn K mainGlobals "_law_refused" = some (some (.ref f33)))
    (l33 : K.lookup f33 = some ⟨oc33, od33, .func (PySem.W.fnOf "_law_refused" "_law_refused" (defArgs s__law_refused) (defBody s__law_refused) (defScope s__law_refused) .none kV33 dc33 pm33 an33 cd33 ct33), sl33⟩) (c33 : PySem.W.codeIn K cd33 "_law_refused" = true) (k33 : PySem.W.keepIn K (.ref f33) = true)
    (a34 : PySem.W.nsIn K mainGlobals "_law_set_apart" = some (some (.ref f34)))
    (l34 : K.lookup f34 = some ⟨oc34, od34, .func (PySem.W.fnOf "_law_set_apart" "_law_set_apart" (defArgs s__law_set_apart) (defBody s__law_set_apart) (defScope s__law_set_apart) .none kV34 dc34 pm34 an34 cd34 ct34), sl34⟩) (c34 : PySem.W.codeIn K cd34 "_law_set_apart" = true) (k34 : PySem.W.keepIn K (.ref f34) = true)
    (a35 : PySem.W.nsIn K mainGlobals "_law_with_set" = some (some (.ref f35)))
    (l35 : K.lookup f35 = some ⟨oc35, od35, .func (PySem.W.fnOf "_law_with_set" "_law_with_set" (defArgs s__law_with_set) (defBody s__law_with_set) (defScope s__law_with_set) .none kV35 dc35 pm35 an35 cd35 ct35), sl35⟩) (c35 : PySem.W.codeIn K cd35 "_law_with_set" = true) (k35 : PySem.W.keepIn K (.ref f35) = true)
    (a36 : PySem.W.nsIn K mainGlobals "_law_meeting" = some (some (.ref f36)))
    (l36 : K.lookup f36 = some ⟨oc36, od36, .func (PySem.W.fnOf "_law_meeting" "_law_meeting" (defArgs s__law_meeting) (defBody s__law_meeting) (defScope s__law_meeting) .none kV36 dc36 pm36 an36 cd36 ct36), sl36⟩) (c36 : PySem.W.codeIn K cd36 "_law_meeting" = true) (k36 : PySem.W.keepIn K (.ref f36) = true)
    (a37 : PySem.W.nsIn K mainGlobals "_law_dealt" = some (some (.ref f37)))
    (l37 : K.lookup f37 = some ⟨oc37, od37, .func (PySem.W.fnOf "_law_dealt" "_law_dealt" (defArgs s__law_dealt) (defBody s__law_dealt) (defScope s__law_dealt) .none kV37 dc37 pm37 an37 cd37 ct37), sl37⟩) (c37 : PySem.W.codeIn K cd37 "_law_dealt" = true) (k37 : PySem.W.keepIn K (.ref f37) = true)
    (a38 : PySem.W.nsIn K mainGlobals "law" = some (some (.ref f38)))
    (l38 : K.lookup f38 = some ⟨oc38, od38, .func (PySem.W.fnOf "law" "law" (defArgs s_law) (defBody s_law) (defScope s_law) .none kV38 dc38 pm38 an38 cd38 ct38), sl38⟩) (c38 : PySem.W.codeIn K cd38 "law" = true) (k38 : PySem.W.keepIn K (.ref f38) = true)
    (z_ValueError : PySem.W.nsIn K mainGlobals "ValueError" = some none)
    (z_abs : PySem.W.nsIn K mainGlobals "abs" = some none)
    (z_bool : PySem.W.nsIn K mainGlobals "bool" = some none)
    (z_enumerate : PySem.W.nsIn K mainGlobals "enumerate" = some none)
    (z_int : PySem.W.nsIn K mainGlobals "int" = some none)
    (z_isinstance : PySem.W.nsIn K mainGlobals "isinstance" = some none)
    (z_len : PySem.W.nsIn K mainGlobals "len" = some none)
    (z_list : PySem.W.nsIn K mainGlobals "list" = some none)
    (z_range : PySem.W.nsIn K mainGlobals "range" = some none)
    (z_sorted : PySem.W.nsIn K mainGlobals "sorted" = some none)
    (z_str : PySem.W.nsIn K mainGlobals "str" = some none)
    (z_sum : PySem.W.nsIn K mainGlobals "sum" = some none)
    (z_tuple : PySem.W.nsIn K mainGlobals "tuple" = some none)
    (y_gcd : PySem.W.nsIn K mainGlobals "gcd" = some (some (.builtin "math.gcd")))
    (x_DIGITS : PySem.W.nsIn K mainGlobals "DIGITS" = some (some (.str "0123456789" tk_DIGITS)))
    (x_LETTERS : PySem.W.nsIn K mainGlobals "LETTERS" = some (some (.str "abcdefghijklmnopqrstuvwxyz" tk_LETTERS)))
    (x_LONGEST_NAME : PySem.W.nsIn K mainGlobals "LONGEST_NAME" = some (some (.int 12 tk_LONGEST_NAME)))
    (x_MOST_MOVES : PySem.W.nsIn K mainGlobals "MOST_MOVES" = some (some (.int 64 tk_MOST_MOVES)))
    : ∃ fd : FuncData, (∀ (s : Shared) (v : Value), BindsTo s fd ⟨[v], []⟩ [("script", v)]) ∧ ∀ base : Heap, K.In base → base.Ns mainGlobals mg → Sure P base → FnOk P w K mg base CX0 88 fa fd ["script"] (concF K (spLaw K)) := by
  have e := hfa.symm.trans (PySem.W.mg_of X G a38)
  cases e
  have T : Blt mg := ⟨PySem.W.mg_none_of X G z_ValueError, PySem.W.mg_none_of X G z_abs, PySem.W.mg_none_of X G z_bool, PySem.W.mg_none_of X G z_enumerate, PySem.W.mg_none_of X G z_int, PySem.W.mg_none_of X G z_isinstance, PySem.W.mg_none_of X G z_len, PySem.W.mg_none_of X G z_list, PySem.W.mg_none_of X G z_range, PySem.W.mg_none_of X G z_sorted, PySem.W.mg_none_of X G z_str, PySem.W.mg_none_of X G z_sum, PySem.W.mg_none_of X G z_tuple, PySem.W.mg_of X G y_gcd, ⟨_, PySem.W.mg_of X G x_DIGITS⟩, ⟨_, PySem.W.mg_of X G x_LETTERS⟩, ⟨_, PySem.W.mg_of X G x_LONGEST_NAME⟩, ⟨_, PySem.W.mg_of X G x_MOST_MOVES⟩⟩
  have e_Derivation := clsA_of ca_Derivation
  have e_Draft := clsA_of ca_Draft
  have Z : Zc K mg := ⟨by rw [e_Derivation]; exact ⟨cp_Derivation, ch_Derivation, co_Derivation, cs_Derivation⟩, by rw [e_Derivation]; exact cf_Derivation_start, by rw [e_Derivation]; exact cf_Derivation_end, by rw [e_Derivation]; exact cf_Derivation_steps, by rw [e_Derivation]; exact cf_Derivation_back, by rw [e_Derivation]; exact cf_Derivation__stage_rows, by rw [e_Draft]; exact ⟨cp_Draft, ch_Draft, co_Draft, cs_Draft⟩, by rw [e_Draft]; exact cf_Draft_start, by rw [e_Draft]; exact cf_Draft_game, by rw [e_Draft]; exact cf_Draft__done_steps, by rw [e_Draft]; exact cf_Draft__back_steps, by rw [e_Draft]; exact cf_Draft__rows_so_far⟩
  have e_GameError := clsA_of xa_GameError
  have e_BadPath := clsA_of xa_BadPath
  have e_BadStep := clsA_of xa_BadStep
  have e_BadDerivation := clsA_of xa_BadDerivation
  have e_NamesMeet := clsA_of xa_NamesMeet
  have XC : Xc K mg := ⟨by rw [e_GameError]; exact PySem.W.mg_of X G xa_GameError, by rw [e_BadPath]; exact PySem.W.mg_of X G xa_BadPath, by rw [e_BadStep]; exact PySem.W.mg_of X G xa_BadStep, by rw [e_BadDerivation]; exact PySem.W.mg_of X G xa_BadDerivation, by rw [e_NamesMeet]; exact PySem.W.mg_of X G xa_NamesMeet, by rw [e_BadStep]; exact ⟨PySem.W.mg_of X G xa_BadStep, xq_BadStep, xk_BadStep, xs_BadStep, xt_BadStep, xh_BadStep⟩, by rw [e_NamesMeet]; exact ⟨PySem.W.mg_of X G xa_NamesMeet, xq_NamesMeet, xk_NamesMeet, xs_NamesMeet, xt_NamesMeet, xh_NamesMeet⟩, by rw [e_NamesMeet]; exact ⟨xg_NamesMeet, xG_NamesMeet, xs_NamesMeet, xh_NamesMeet, xA_NamesMeet, xN_NamesMeet, xT_NamesMeet, xM_NamesMeet⟩, by rw [e_NamesMeet]; exact PySem.W.exm_ref xs_NamesMeet xh_NamesMeet xt_NamesMeet xm_NamesMeet, by rw [e_NamesMeet, e_GameError]; exact xi_NamesMeet_GameError, by rw [e_NamesMeet]; exact xi_NamesMeet_ValueError, by rw [e_NamesMeet, e_BadStep]; exact xi_NamesMeet_BadStep⟩
  have H__law_draw : Here K mg "_law_draw" s__law_draw ["script", "source", "limit"] := here_of X G a1 l1 c1 k1 fun _ _ _ _ _ _ us hl => match us, hl with | [_, _, _], _ => rfl
  have H__law_source : Here K mg "_law_source" s__law_source ["script"] := here_of X G a2 l2 c2 k2 fun _ _ _ _ _ _ us hl => match us, hl with | [_], _ => rfl
  have H__law_gcd : Here K mg "_law_gcd" s__law_gcd ["a", "b"] := here_of X G a3 l3 c3 k3 fun _ _ _ _ _ _ us hl => match us, hl with | [_, _], _ => rfl
  have H__law_reduced : Here K mg "_law_reduced" s__law_reduced ["weights"] := here_of X G a4 l4 c4 k4 fun _ _ _ _ _ _ us hl => match us, hl with | [_], _ => rfl
  have H__law_name : Here K mg "_law_name" s__law_name ["script", "source", "used"] := here_of X G a5 l5 c5 k5 fun _ _ _ _ _ _ us hl => match us, hl with | [_, _, _], _ => rfl
  have H_row_of : Here K mg "row_of" s_row_of ["game", "name"] := here_of X G a6 l6 c6 k6 fun _ _ _ _ _ _ us hl => match us, hl with | [_, _], _ => rfl
  have H__law_sets : Here K mg "_law_sets" s__law_sets ["script", "source", "many", "most"] := here_of X G a7 l7 c7 k7 fun _ _ _ _ _ _ us hl => match us, hl with | [_, _, _, _], _ => rfl
  have H__law_tree : Here K mg "_law_tree" s__law_tree ["script", "source", "free", "outcomes", "room", "wish"] := here_of X G a8 l8 c8 k8 fun _ _ _ _ _ _ us hl => match us, hl with | [_, _, _, _, _, _], _ => rfl
  have H_is_name : Here K mg "is_name" s_is_name ["word"] := here_of X G a9 l9 c9 k9 fun _ _ _ _ _ _ us hl => match us, hl with | [_], _ => rfl
  have H_is_new_name : Here K mg "is_new_name" s_is_new_name ["game", "name"] := here_of X G a10 l10 c10 k10 fun _ _ _ _ _ _ us hl => match us, hl with | [_, _], _ => rfl
  have H_without_row : Here K mg "without_row" s_without_row ["sets", "name"] := here_of X G a11 l11 c11 k11 fun _ _ _ _ _ _ us hl => match us, hl with | [_, _], _ => rfl
  have H_with_row : Here K mg "with_row" s_with_row ["sets", "row"] := here_of X G a12 l12 c12 k12 fun _ _ _ _ _ _ us hl => match us, hl with | [_, _], _ => rfl
  have H_relabelled : Here K mg "relabelled" s_relabelled ["tree", "name", "new"] := here_of X G a13 l13 c13 k13 fun _ _ _ _ _ _ us hl => match us, hl with | [_, _, _], _ => rfl
  have H_renamed : Here K mg "renamed" s_renamed ["game", "name", "new"] := here_of X G a14 l14 c14 k14 fun _ _ _ _ _ _ us hl => match us, hl with | [_, _, _], _ => rfl
  have H_fresh_names : Here K mg "fresh_names" s_fresh_names ["game", "count"] := here_of X G a15 l15 c15 k15 fun _ _ _ _ _ _ us hl => match us, hl with | [_, _], _ => rfl
  have H__law_plain : Here K mg "_law_plain" s__law_plain ["answer"] := here_of X G a16 l16 c16 k16 fun _ _ _ _ _ _ us hl => match us, hl with | [_], _ => rfl
  have H_apply_step : Here K mg "apply_step" s_apply_step ["game", "step"] := here_of X G a17 l17 c17 k17 fun _ _ _ _ _ _ us hl => match us, hl with | [_, _], _ => rfl
  have H_turned_step : Here K mg "turned_step" s_turned_step ["game", "step"] := here_of X G a18 l18 c18 k18 fun _ _ _ _ _ _ us hl => match us, hl with | [_, _], _ => rfl
  have F_Draft___init__ := fun_mk (st := s_Draft___init__) l19 c19 k19
  have b_Draft___init__ := F_Draft___init__.binds (ps := ["self", "game"]) fun _ _ _ _ _ _ us hl => match us, hl with | [_, _], _ => rfl
  have F_Draft_do := fun_mk (st := s_Draft_do) l20 c20 k20
  have b_Draft_do := F_Draft_do.binds (ps := ["self", "step"]) fun _ _ _ _ _ _ us hl => match us, hl with | [_, _], _ => rfl
  have F_Derivation___init__ := fun_mk (st := s_Derivation___init__) l21 c21 k21
  have b_Derivation___init__ := F_Derivation___init__.binds (ps := ["self", "start", "end", "steps", "back", "stage_rows"]) fun _ _ _ _ _ _ us hl => match us, hl with | [_, _, _, _, _, _], _ => rfl
  have F_Draft_done := fun_mk (st := s_Draft_done) l22 c22 k22
  have b_Draft_done := F_Draft_done.binds (ps := ["self"]) fun _ _ _ _ _ _ us hl => match us, hl with | [_], _ => rfl
  have H_apart : Here K mg "apart" s_apart ["host", "guest"] := here_of X G a23 l23 c23 k23 fun _ _ _ _ _ _ us hl => match us, hl with | [_, _], _ => rfl
  have H__with_guest : Here K mg "_with_guest" s__with_guest ["tree", "outcome", "guest"] := here_of X G a24 l24 c24 k24 fun _ _ _ _ _ _ us hl => match us, hl with | [_, _, _], _ => rfl
  have H__law_grown : Here K mg "_law_grown" s__law_grown ["tree", "outcome", "guest"] := here_of X G a25 l25 c25 k25 fun _ _ _ _ _ _ us hl => match us, hl with | [_, _, _], _ => rfl
  have H__keep_apart : Here K mg "_keep_apart" s__keep_apart ["game", "other"] := here_of X G a26 l26 c26 k26 fun _ _ _ _ _ _ us hl => match us, hl with | [_, _], _ => rfl
  have H_substitute : Here K mg "substitute" s_substitute ["host", "outcome", "guest"] := here_of X G a27 l27 c27 k27 fun _ _ _ _ _ _ us hl => match us, hl with | [_, _, _], _ => rfl
  have H__law_whole : Here K mg "_law_whole" s__law_whole ["host", "outcome", "guest"] := here_of X G a28 l28 c28 k28 fun _ _ _ _ _ _ us hl => match us, hl with | [_, _, _], _ => rfl
  have H__law_ends : Here K mg "_law_ends" s__law_ends ["tree"] := here_of X G a29 l29 c29 k29 fun _ _ _ _ _ _ us hl => match us, hl with | [_], _ => rfl
  have H__law_new : Here K mg "_law_new" s__law_new ["name", "steps"] := here_of X G a30 l30 c30 k30 fun _ _ _ _ _ _ us hl => match us, hl with | [_, _], _ => rfl
  have H__law_called : Here K mg "_law_called" s__law_called ["tree", "steps"] := here_of X G a31 l31 c31 k31 fun _ _ _ _ _ _ us hl => match us, hl with | [_, _], _ => rfl
  have H__law_renames : Here K mg "_law_renames" s__law_renames ["host", "guest"] := here_of X G a32 l32 c32 k32 fun _ _ _ _ _ _ us hl => match us, hl with | [_, _], _ => rfl
  have H__law_refused : Here K mg "_law_refused" s__law_refused ["host", "outcome", "guest"] := here_of X G a33 l33 c33 k33 fun _ _ _ _ _ _ us hl => match us, hl with | [_, _, _], _ => rfl
  have H__law_set_apart : Here K mg "_law_set_apart" s__law_set_apart ["host", "outcome", "guest"] := here_of X G a34 l34 c34 k34 fun _ _ _ _ _ _ us hl => match us, hl with | [_, _, _], _ => rfl
  have H__law_with_set : Here K mg "_law_with_set" s__law_with_set ["script", "source", "game", "name"] := here_of X G a35 l35 c35 k35 fun _ _ _ _ _ _ us hl => match us, hl with | [_, _, _, _], _ => rfl
  have H__law_meeting : Here K mg "_law_meeting" s__law_meeting ["script", "source", "host", "guest"] := here_of X G a36 l36 c36 k36 fun _ _ _ _ _ _ us hl => match us, hl with | [_, _, _, _], _ => rfl
  have H__law_dealt : Here K mg "_law_dealt" s__law_dealt ["script", "source", "many", "most", "count", "nodes"] := here_of X G a37 l37 c37 k37 fun _ _ _ _ _ _ us hl => match us, hl with | [_, _, _, _, _, _], _ => rfl
  refine ⟨PySem.W.fnOf "law" "law" (defArgs s_law) (defBody s_law) (defScope s_law) .none kV38 dc38 pm38 an38 cd38 ct38, fun s v => .of_eq rfl, fun base _ _ Su => ?_⟩
  have C__law_draw := ok__law_draw (P := P) (w := w) (base := base) H__law_draw T Z XC Su 
  have C__law_source := ok__law_source (P := P) (w := w) (base := base) H__law_source T Z XC Su 
  have C__law_gcd := ok__law_gcd (P := P) (w := w) (base := base) H__law_gcd T Z XC Su 
  have C__law_reduced := ok__law_reduced (P := P) (w := w) (base := base) H__law_reduced T Z XC Su C__law_gcd
  have C__law_name := ok__law_name (P := P) (w := w) (base := base) H__law_name T Z XC Su C__law_draw
  have C_row_of := ok_row_of (P := P) (w := w) (base := base) H_row_of T Z XC Su 
  have C__law_sets := ok__law_sets (P := P) (w := w) (base := base) H__law_sets T Z XC Su C__law_draw C__law_name C__law_reduced
  have C__law_tree := ok__law_tree (P := P) (w := w) (base := base) H__law_tree T Z XC Su C__law_draw 20
  have C_is_name := ok_is_name (P := P) (w := w) (base := base) H_is_name T Z XC Su 
  have C_is_new_name := ok_is_new_name (P := P) (w := w) (base := base) H_is_new_name T Z XC Su C_is_name C_row_of
  have C_without_row := ok_without_row (P := P) (w := w) (base := base) H_without_row T Z XC Su 
  have C_with_row := ok_with_row (P := P) (w := w) (base := base) H_with_row T Z XC Su 
  have C_relabelled := ok_relabelled (P := P) (w := w) (base := base) H_relabelled T Z XC Su  13
  have C_renamed := ok_renamed (P := P) (w := w) (base := base) H_renamed T Z XC Su C_is_new_name C_relabelled C_row_of C_with_row C_without_row
  have C_fresh_names := ok_fresh_names (P := P) (w := w) (base := base) H_fresh_names T Z XC Su 
  have C__law_plain := ok__law_plain (P := P) (w := w) (base := base) H__law_plain T Z XC Su  52
  have C_apply_step := ok_apply_step (P := P) (w := w) (base := base) H_apply_step T Z XC Su C_renamed
  have C_turned_step := ok_turned_step (P := P) (w := w) (base := base) H_turned_step T Z XC Su 
  have O_Draft___init__ := ok_Draft___init__ (P := P) (w := w) (base := base) F_Draft___init__ T Z XC Su 
  have C_Draft___init__ : CalleeK P w K mg base 34 "Draft" ["self", "game"] (sp_Draft___init__ K) := ⟨⟨_, _, O_Draft___init__, by rw [e_Draft]; exact PySem.W.mg_of X G ca_Draft, by rw [e_Draft]; exact ⟨cm_Draft, a19, i19, ck_Draft⟩, b_Draft___init__⟩⟩
  have O_Draft_do := ok_Draft_do (P := P) (w := w) (base := base) F_Draft_do T Z XC Su C_apply_step C_turned_step
  have C_Draft_do : CalleeM P w K mg base 50 (clsA K "Draft") "do" ["self", "step"] (sp_Draft_do K) := ⟨⟨_, _, O_Draft_do, Z.cls_Draft, by rw [e_Draft]; exact ⟨a20, i20, k20⟩, b_Draft_do⟩⟩
  have O_Derivation___init__ := ok_Derivation___init__ (P := P) (w := w) (base := base) F_Derivation___init__ T Z XC Su 
  have C_Derivation___init__ : CalleeK P w K mg base 34 "Derivation" ["self", "start", "end", "steps", "back", "stage_rows"] (sp_Derivation___init__ K) := ⟨⟨_, _, O_Derivation___init__, by rw [e_Derivation]; exact PySem.W.mg_of X G ca_Derivation, by rw [e_Derivation]; exact ⟨cm_Derivation, a21, i21, ck_Derivation⟩, b_Derivation___init__⟩⟩
  have O_Draft_done := ok_Draft_done (P := P) (w := w) (base := base) F_Draft_done T Z XC Su C_Derivation___init__
  have C_Draft_done : CalleeM P w K mg base 36 (clsA K "Draft") "done" ["self"] (sp_Draft_done K) := ⟨⟨_, _, O_Draft_done, Z.cls_Draft, by rw [e_Draft]; exact ⟨a22, i22, k22⟩, b_Draft_done⟩⟩
  have C_apart := ok_apart (P := P) (w := w) (base := base) H_apart T Z XC Su C_Draft___init__ C_Draft_do C_Draft_done C_fresh_names
  have C__with_guest := ok__with_guest (P := P) (w := w) (base := base) H__with_guest T Z XC Su  17
  have C__law_grown := ok__law_grown (P := P) (w := w) (base := base) H__law_grown T Z XC Su  17
  have C__keep_apart := ok__keep_apart (P := P) (w := w) (base := base) H__keep_apart T Z XC Su 
  have C_substitute := ok_substitute (P := P) (w := w) (base := base) H_substitute T Z XC Su C__keep_apart C__with_guest
  have C__law_whole := ok__law_whole (P := P) (w := w) (base := base) H__law_whole T Z XC Su C__law_grown
  have C__law_ends := ok__law_ends (P := P) (w := w) (base := base) H__law_ends T Z XC Su  13
  have C__law_new := ok__law_new (P := P) (w := w) (base := base) H__law_new T Z XC Su 
  have C__law_called := ok__law_called (P := P) (w := w) (base := base) H__law_called T Z XC Su C__law_new 13
  have C__law_renames := ok__law_renames (P := P) (w := w) (base := base) H__law_renames T Z XC Su 
  have C__law_refused := ok__law_refused (P := P) (w := w) (base := base) H__law_refused T Z XC Su C_substitute
  have C__law_set_apart := ok__law_set_apart (P := P) (w := w) (base := base) H__law_set_apart T Z XC Su C__law_called C__law_new C__law_plain C__law_renames C__law_whole C_apart C_substitute
  have C__law_with_set := ok__law_with_set (P := P) (w := w) (base := base) H__law_with_set T Z XC Su C__law_draw C__law_ends
  have C__law_meeting := ok__law_meeting (P := P) (w := w) (base := base) H__law_meeting T Z XC Su C__law_draw C__law_with_set
  have C__law_dealt := ok__law_dealt (P := P) (w := w) (base := base) H__law_dealt T Z XC Su C__law_draw C__law_name C__law_sets C__law_tree
  exact ok_law (fun_mk (st := s_law) l38 c38 k38) T Z XC Su C__law_dealt C__law_draw C__law_ends C__law_meeting C__law_name C__law_plain C__law_refused C__law_set_apart C__law_source C__law_whole C__law_with_set C_substitute
end PL
open PySem PySem.W PyProof.Rows
set_option maxHeartbeats 0 in
theorem PySem.Challenge.cw_toldotherwise_k51_game_in_place_of_outco_holds : PySem.Challenge.rw_toldotherwise_k51_game_in_place_of_outco.Holds := by
  w_on; o_law; k_head; (case hw => w_witness2)
  k_fill
  refine PL.walkP (l := PySem.Challenge.rw_toldotherwise_k51_game_in_place_of_outco) (k := 88) (x := "script") rfl rfl ⟨rfl, by decide, by decide⟩ rfl rfl (fun w h Y => PySem.W.kIn_of Y) ?F
  case F =>
    intro w mg fa h KX G hmg
    refine' PL.all_mk KX G hmg ?ca_Derivation ?cp_Derivation ?ch_Derivation ?co_Derivation ?cs_Derivation ?cm_Derivation ?ck_Derivation ?cf_Derivation_start ?cf_Derivation_end ?cf_Derivation_steps ?cf_Derivation_back ?cf_Derivation__stage_rows ?ca_Draft ?cp_Draft ?ch_Draft ?co_Draft ?cs_Draft ?cm_Draft ?ck_Draft ?cf_Draft_start ?cf_Draft_game ?cf_Draft__done_steps ?cf_Draft__back_steps ?cf_Draft__rows_so_far ?xa_GameError ?xa_BadPath ?xa_BadStep ?xa_BadDerivation ?xa_NamesMeet ?xq_BadStep ?xk_BadStep ?xs_BadStep ?xt_BadStep ?xh_BadStep ?xq_NamesMeet ?xk_NamesMeet ?xs_NamesMeet ?xt_NamesMeet ?xh_NamesMeet ?xg_NamesMeet ?xG_NamesMeet ?xA_NamesMeet ?xN_NamesMeet ?xT_NamesMeet ?xM_NamesMeet ?xm_NamesMeet ?xi_NamesMeet_GameError ?xi_NamesMeet_ValueError ?xi_NamesMeet_BadStep ?a1 ?l1 ?c1 ?k1 ?a2 ?l2 ?c2 ?k2 ?a3 ?l3 ?c3 ?k3 ?a4 ?l4 ?c4 ?k4 ?a5 ?l5 ?c5 ?k5 ?a6 ?l6 ?c6 ?k6 ?a7 ?l7 ?c7 ?k7 ?a8 ?l8 ?c8 ?k8 ?a9 ?l9 ?c9 ?k9 ?a10 ?l10 ?c10 ?k10 ?a11 ?l11 ?c11 ?k11 ?a12 ?l12 ?c12 ?k12 ?a13 ?l13 ?c13 ?k13 ?a14 ?l14 ?c14 ?k14 ?a15 ?l15 ?c15 ?k15 ?a16 ?l16 ?c16 ?k16 ?a17 ?l17 ?c17 ?k17 ?a18 ?l18 ?c18 ?k18 ?a19 ?i19 ?l19 ?c19 ?k19 ?a20 ?i20 ?l20 ?c20 ?k20 ?a21 ?i21 ?l21 ?c21 ?k21 ?a22 ?i22 ?l22 ?c22 ?k22 ?a23 ?l23 ?c23 ?k23 ?a24 ?l24 ?c24 ?k24 ?a25 ?l25 ?c25 ?k25 ?a26 ?l26 ?c26 ?k26 ?a27 ?l27 ?c27 ?k27 ?a28 ?l28 ?c28 ?k28 ?a29 ?l29 ?c29 ?k29 ?a30 ?l30 ?c30 ?k30 ?a31 ?l31 ?c31 ?k31 ?a32 ?l32 ?c32 ?k32 ?a33 ?l33 ?c33 ?k33 ?a34 ?l34 ?c34 ?k34 ?a35 ?l35 ?c35 ?k35 ?a36 ?l36 ?c36 ?k36 ?a37 ?l37 ?c37 ?k37 ?a38 ?l38 ?c38 ?k38 ?z_ValueError ?z_abs ?z_bool ?z_enumerate ?z_int ?z_isinstance ?z_len ?z_list ?z_range ?z_sorted ?z_str ?z_sum ?z_tuple ?y_gcd ?x_DIGITS ?x_LETTERS ?x_LONGEST_NAME ?x_MOST_MOVES
    (case ca_Derivation => k_is); (case cp_Derivation => k_is); (case ch_Derivation => k_is); (case co_Derivation => k_is); (case cs_Derivation => k_is); (case cm_Derivation => k_is); (case ck_Derivation => k_is); (case cf_Derivation_start => k_is); (case cf_Derivation_end => k_is); (case cf_Derivation_steps => k_is); (case cf_Derivation_back => k_is); (case cf_Derivation__stage_rows => k_is); (case ca_Draft => k_is); (case cp_Draft => k_is); (case ch_Draft => k_is); (case co_Draft => k_is); (case cs_Draft => k_is); (case cm_Draft => k_is); (case ck_Draft => k_is); (case cf_Draft_start => k_is); (case cf_Draft_game => k_is); (case cf_Draft__done_steps => k_is); (case cf_Draft__back_steps => k_is); (case cf_Draft__rows_so_far => k_is); (case xa_GameError => k_is); (case xa_BadPath => k_is); (case xa_BadStep => k_is); (case xa_BadDerivation => k_is); (case xa_NamesMeet => k_is); (case xk_BadStep => k_is); (case xs_BadStep => k_is); (case xt_BadStep => k_is); (case xh_BadStep => k_is); (case xk_NamesMeet => k_is); (case xs_NamesMeet => k_is); (case xt_NamesMeet => k_is); (case xh_NamesMeet => k_is); (case xg_NamesMeet => k_is); (case xG_NamesMeet => k_is); (case xA_NamesMeet => k_is); (case xN_NamesMeet => k_is); (case xT_NamesMeet => k_is); (case xM_NamesMeet => k_is); (case xm_NamesMeet => k_is); (case a1 => k_is); (case l1 => k_is); (case c1 => k_is); (case k1 => k_is); (case a2 => k_is); (case l2 => k_is); (case c2 => k_is); (case k2 => k_is); (case a3 => k_is); (case l3 => k_is); (case c3 => k_is); (case k3 => k_is); (case a4 => k_is); (case l4 => k_is); (case c4 => k_is); (case k4 => k_is); (case a5 => k_is); (case l5 => k_is); (case c5 => k_is); (case k5 => k_is); (case a6 => k_is); (case l6 => k_is); (case c6 => k_is); (case k6 => k_is); (case a7 => k_is); (case l7 => k_is); (case c7 => k_is); (case k7 => k_is); (case a8 => k_is); (case l8 => k_is); (case c8 => k_is); (case k8 => k_is); (case a9 => k_is); (case l9 => k_is); (case c9 => k_is); (case k9 => k_is); (case a10 => k_is); (case l10 => k_is); (case c10 => k_is); (case k10 => k_is); (case a11 => k_is); (case l11 => k_is); (case c11 => k_is); (case k11 => k_is); (case a12 => k_is); (case l12 => k_is); (case c12 => k_is); (case k12 => k_is); (case a13 => k_is); (case l13 => k_is); (case c13 => k_is); (case k13 => k_is); (case a14 => k_is); (case l14 => k_is); (case c14 => k_is); (case k14 => k_is); (case a15 => k_is); (case l15 => k_is); (case c15 => k_is); (case k15 => k_is); (case a16 => k_is); (case l16 => k_is); (case c16 => k_is); (case k16 => k_is); (case a17 => k_is); (case l17 => k_is); (case c17 => k_is); (case k17 => k_is); (case a18 => k_is); (case l18 => k_is); (case c18 => k_is); (case k18 => k_is); (case a19 => k_is); (case i19 => k_is); (case l19 => k_is); (case c19 => k_is); (case k19 => k_is); (case a20 => k_is); (case i20 => k_is); (case l20 => k_is); (case c20 => k_is); (case k20 => k_is); (case a21 => k_is); (case i21 => k_is); (case l21 => k_is); (case c21 => k_is); (case k21 => k_is); (case a22 => k_is); (case i22 => k_is); (case l22 => k_is); (case c22 => k_is); (case k22 => k_is); (case a23 => k_is); (case l23 => k_is); (case c23 => k_is); (case k23 => k_is); (case a24 => k_is); (case l24 => k_is); (case c24 => k_is); (case k24 => k_is); (case a25 => k_is); (case l25 => k_is); (case c25 => k_is); (case k25 => k_is); (case a26 => k_is); (case l26 => k_is); (case c26 => k_is); (case k26 => k_is); (case a27 => k_is); (case l27 => k_is); (case c27 => k_is); (case k27 => k_is); (case a28 => k_is); (case l28 => k_is); (case c28 => k_is); (case k28 => k_is); (case a29 => k_is); (case l29 => k_is); (case c29 => k_is); (case k29 => k_is); (case a30 => k_is); (case l30 => k_is); (case c30 => k_is); (case k30 => k_is); (case a31 => k_is); (case l31 => k_is); (case c31 => k_is); (case k31 => k_is); (case a32 => k_is); (case l32 => k_is); (case c32 => k_is); (case k32 => k_is); (case a33 => k_is); (case l33 => k_is); (case c33 => k_is); (case k33 => k_is); (case a34 => k_is); (case l34 => k_is); (case c34 => k_is); (case k34 => k_is); (case a35 => k_is); (case l35 => k_is); (case c35 => k_is); (case k35 => k_is); (case a36 => k_is); (case l36 => k_is); (case c36 => k_is); (case k36 => k_is); (case a37 => k_is); (case l37 => k_is); (case c37 => k_is); (case k37 => k_is); (case a38 => k_is); (case l38 => k_is); (case c38 => k_is); (case k38 => k_is); (case z_ValueError => k_is); (case z_abs => k_is); (case z_bool => k_is); (case z_enumerate => k_is); (case z_int => k_is); (case z_isinstance => k_is); (case z_len => k_is); (case z_list => k_is); (case z_range => k_is); (case z_sorted => k_is); (case z_str => k_is); (case z_sum => k_is); (case z_tuple => k_is); (case y_gcd => k_is); (case x_DIGITS => k_is); (case x_LETTERS => k_is); (case x_LONGEST_NAME => k_is); (case x_MOST_MOVES => k_is); (case xq_BadStep => k_exc); (case xq_NamesMeet => k_exc); (case xi_NamesMeet_GameError => kit_is); (case xi_NamesMeet_ValueError => kit_is); (case xi_NamesMeet_BadStep => kit_is)
