import PyProof.Rows.All
import Wide.All
import OpenK.AllK
import Wide.FinOn
import HandS.ForMost
import HandS.Gcd
import HandS.Wide
import HandS.WideMore
import HandS.IsInst
import HandS.TupAny
import HandS.TupLe
import HandS.Flow
import HandS.TupMul
import HandS.Walk
import KE.KTupSum
import HandS.EndBits
import PySem.Challenge.RW_toldotherwise_k06_fractions_and_weights
set_option Elab.async false
set_option linter.all false
set_option maxRecDepth 100000
set_option maxHeartbeats 2000000
/-! PL1: a data layer over the hand layer: tuples are plain values, lists and dicts stand at addresses, what is not needed may be dropped. -/
namespace PL
open PySem L2

abbrev Kf := PySem.W.Frag
inductive PV where
  | non | bl (b : Bool) | int (i : Int) | str (x : Str) | tup (l : List PV) | ref (a : Addr) | ty (n : String)

mutual
inductive Rep (K : Kf) (H : Hp) : PV → V → Prop
  | non : Rep K H .non .non
  | bl (b) : Rep K H (.bl b) (.bl b)
  | int (i) : Rep K H (.int i) (.int i)
  | str (x) : Rep K H (.str x) (.str x)
  | ref (a) : Rep K H (.ref a) (.ref a)
  | ty (n) : Rep K H (.ty n) (.ty n)
  | tup {l a vs} : SqT K H a vs → Reps K H l vs → Rep K H (.tup l) (.ref a)
inductive Reps (K : Kf) (H : Hp) : List PV → List V → Prop
  | nil : Reps K H [] []
  | cons {p v ps vs} : Rep K H p v → Reps K H ps vs → Reps K H (p :: ps) (v :: vs)
end

def Tk (K : Kf) (H H' : Hp) : Prop := ∀ a xs, SqT K H a xs → SqT K H' a xs
theorem Tk.refl (K : Kf) (H : Hp) : Tk K H H := fun _ _ h => h
theorem Tk.trans {K : Kf} {H H1 H2 : Hp} (a : Tk K H H1) (b : Tk K H1 H2) : Tk K H H2 := fun x xs h => b x xs (a x xs h)
theorem Tk.upd {K : Kf} {H : Hp} {p : Addr} {o : HO} (h : ∀ xs, ¬ Rd H p (.tup xs)) : Tk K H (upd H p o) := fun a xs e => by
  rcases e with e | e
  · have ne : a ≠ p := fun q => h xs (q ▸ e)
    rcases e with e | ⟨u, e⟩
    · exact .inl (.inl (by rw [upd_ne ne]; exact e))
    · exact .inl (.inr ⟨u, by rw [upd_ne ne]; exact e⟩)
  · exact .inr e
theorem Tk.new {K : Kf} {H : Hp} {p : Addr} {o : HO} (h : H p = none) : Tk K H (L2.upd H p o) := .upd fun xs e => by
  rcases e with e | ⟨u, e⟩ <;> rw [h] at e <;> cases e

mutual
theorem Rep.mono {K : Kf} {H H' : Hp} (t : Tk K H H') : ∀ {p v}, Rep K H p v → Rep K H' p v
  | _, _, .non => .non
  | _, _, .bl b => .bl b
  | _, _, .int b => .int b
  | _, _, .str b => .str b
  | _, _, .ref b => .ref b
  | _, _, .ty b => .ty b
  | _, _, .tup h r => .tup (t _ _ h) (Reps.mono t r)
theorem Reps.mono {K : Kf} {H H' : Hp} (t : Tk K H H') : ∀ {p v}, Reps K H p v → Reps K H' p v
  | _, _, .nil => .nil
  | _, _, .cons h r => .cons (Rep.mono t h) (Reps.mono t r)
end

section
variable {K : Kf} {H : Hp}
theorem Reps.length : ∀ {ps vs}, Reps K H ps vs → ps.length = vs.length
  | _, _, .nil => rfl
  | _, _, .cons _ t => congrArg (· + 1) (Reps.length t)
theorem Reps.get : ∀ {ps vs} {i : Nat} {p}, Reps K H ps vs → ps[i]? = some p → ∃ v, vs[i]? = some v ∧ Rep K H p v
  | _, _, _, _, .nil, e => by simp at e
  | _, _, 0, _, .cons r _, e => by simp at e; subst e; exact ⟨_, rfl, r⟩
  | _, _, i + 1, p, .cons _ t, e => by
    obtain ⟨u, h1, h2⟩ := Reps.get (i := i) (p := p) t (by simpa using e)
    exact ⟨u, by simpa using h1, h2⟩
theorem Reps.append : ∀ {ps vs qs ws}, Reps K H ps vs → Reps K H qs ws → Reps K H (ps ++ qs) (vs ++ ws)
  | _, _, _, _, .nil, s => s
  | _, _, _, _, .cons r t, s => .cons r (Reps.append t s)
theorem Reps.set {p v} (r : Rep K H p v) : ∀ {ps vs} (i : Nat), Reps K H ps vs → Reps K H (ps.set i p) (vs.set i v)
  | _, _, _, .nil => .nil
  | _, _, 0, .cons _ t => .cons r t
  | _, _, i + 1, .cons q t => .cons q (Reps.set r i t)
theorem Reps.take : ∀ {ps vs} (n : Nat), Reps K H ps vs → Reps K H (ps.take n) (vs.take n)
  | _, _, 0, _ => .nil
  | _, _, _ + 1, .nil => .nil
  | _, _, n + 1, .cons r t => .cons r (Reps.take n t)
theorem Reps.drop : ∀ {ps vs} (n : Nat), Reps K H ps vs → Reps K H (ps.drop n) (vs.drop n)
  | _, _, 0, r => r
  | _, _, _ + 1, .nil => .nil
  | _, _, n + 1, .cons _ t => Reps.drop n t
theorem Reps.ints : ∀ {ns : List Int} {vs}, Reps K H (ns.map PV.int) vs → vs = ns.map V.int
  | [], _, .nil => rfl
  | _ :: _, _, .cons (.int _) t => by rw [Reps.ints t]; rfl
theorem Reps.of_ints : ∀ {ns : List Int}, Reps K H (ns.map PV.int) (ns.map V.int)
  | [] => .nil
  | _ :: _ => .cons (.int _) Reps.of_ints
theorem Reps.strs : ∀ {ns : List Str} {vs}, Reps K H (ns.map PV.str) vs → vs = ns.map V.str
  | [], _, .nil => rfl
  | _ :: _, _, .cons (.str _) t => by rw [Reps.strs t]; rfl
theorem Reps.of_strs : ∀ {ns : List Str}, Reps K H (ns.map PV.str) (ns.map V.str)
  | [] => .nil
  | _ :: _ => .cons (.str _) Reps.of_strs
theorem Reps.snoc {ps vs p v} (h : Reps K H ps vs) (r : Rep K H p v) : Reps K H (ps ++ [p]) (vs ++ [v]) := h.append (.cons r .nil)
theorem Reps.nil_iff {ps vs} (h : Reps K H ps vs) : ps = [] ↔ vs = [] := by
  cases h with
  | nil => simp
  | cons a b => simp
end

/-! ### what stands at an address -/
inductive MO where
  | lst (l : List PV)
  | ro (l : List PV)
  | dK (kvs : List (Key × PV))
  | xd (fs : List (Str × PV))
abbrev PHp := Addr → Option MO
def updM (M : PHp) (a : Addr) (o : MO) : PHp := fun b => if b = a then some o else M b
theorem updM_same {M : PHp} {a : Addr} {o : MO} : updM M a o a = some o := by unfold updM; rw [if_pos rfl]
theorem updM_ne {M : PHp} {a b : Addr} {o : MO} (h : b ≠ a) : updM M a o b = M b := by unfold updM; rw [if_neg h]
theorem updM_updM {M : PHp} {a : Addr} {o u : MO} : updM (updM M a o) a u = updM M a u := by
  funext b; unfold updM; split <;> rfl
theorem updM_self {M : PHp} {a : Addr} {o : MO} (h : M a = some o) : updM M a o = M := by
  funext b; unfold updM; split
  · next e => rw [e, h]
  · rfl
theorem updM_comm {M : PHp} {a b : Addr} {o u : MO} (h : a ≠ b) : updM (updM M a o) b u = updM (updM M b u) a o := by
  funext c; unfold updM
  by_cases h1 : c = b
  · subst h1; rw [if_pos rfl, if_neg (Ne.symm h), if_pos rfl]
  · rw [if_neg h1, if_neg h1]
theorem neM {M : PHp} {a b : Addr} {o : MO} (h : M a = some o) (h' : M b = none) : a ≠ b := by
  intro e; subst e; rw [h] at h'; cases h'
theorem neM' {M : PHp} {a b : Addr} {o : MO} (h : M a = some o) (h' : M b = none) : b ≠ a := (neM h h').symm
def Sub (M M' : PHp) : Prop := ∀ a o, M a = some o → M' a = some o
theorem Sub.refl (M : PHp) : Sub M M := fun _ _ h => h
theorem Sub.trans {M M1 M2 : PHp} (a : Sub M M1) (b : Sub M1 M2) : Sub M M2 := fun x o h => b x o (a x o h)
theorem Sub.new {M : PHp} {p : Addr} {o : MO} (h : M p = none) : Sub M (updM M p o) := fun a u e => by rw [updM_ne (neM e h)]; exact e
theorem Sub.upd {M M' : PHp} {p : Addr} {o : MO} (h : Sub M M') : Sub (updM M p o) (updM M' p o) := fun a u e => by
  unfold updM at e ⊢; split
  · next q => rw [if_pos q] at e; exact e
  · next q => rw [if_neg q] at e; exact h a u e

inductive RepKV (K : Kf) (H : Hp) : List (Key × PV) → List (Key × V) → Prop
  | nil : RepKV K H [] []
  | cons {k p v ps vs} : Rep K H p v → RepKV K H ps vs → RepKV K H ((k, p) :: ps) ((k, v) :: vs)
theorem RepKV.mono {K : Kf} {H H' : Hp} (t : Tk K H H') {ps vs} (h : RepKV K H ps vs) : RepKV K H' ps vs := by
  induction h with
  | nil => exact .nil
  | cons a _ ih => exact .cons (a.mono t) ih
inductive RepXD (K : Kf) (H : Hp) : List (Str × PV) → List (Str × V) → Prop
  | nil : RepXD K H [] []
  | cons {k p v ps vs} : Rep K H p v → RepXD K H ps vs → RepXD K H ((k, p) :: ps) ((k, v) :: vs)
theorem RepXD.mono {K : Kf} {H H' : Hp} (t : Tk K H H') {ps vs} (h : RepXD K H ps vs) : RepXD K H' ps vs := by
  induction h with
  | nil => exact .nil
  | cons a _ ih => exact .cons (a.mono t) ih

def OkM (K : Kf) (H : Hp) (a : Addr) : MO → Prop
  | .lst l => ∃ vs, H a = some (.lst vs) ∧ Reps K H l vs
  | .ro l => ∃ vs, Rd H a (.lst vs) ∧ Reps K H l vs
  | .dK kvs => ∃ vs, H a = some (.dK vs) ∧ RepKV K H kvs vs
  | .xd fs => ∃ vs, H a = some (.xd vs) ∧ RepXD K H fs vs
def RelM (K : Kf) (H : Hp) (M : PHp) : Prop := ∀ a o, M a = some o → OkM K H a o
theorem RelM.sub {K : Kf} {H : Hp} {M M' : PHp} (h : RelM K H M') (s : Sub M M') : RelM K H M := fun a o e => h a o (s a o e)
/-- what the object at b's description leans on -/
theorem OkM.stay {K : Kf} {H H' : Hp} {a : Addr} {o : MO} (h : OkM K H a o) (t : Tk K H H') (k : H' a = H a) : OkM K H' a o := by
  cases o with
  | lst l => obtain ⟨vs, e, r⟩ := h; exact ⟨vs, k.trans e, r.mono t⟩
  | ro l =>
    obtain ⟨vs, e, r⟩ := h
    refine ⟨vs, ?_, r.mono t⟩
    rcases e with e | ⟨u, e⟩
    · exact .inl (k.trans e)
    · exact .inr ⟨u, k.trans e⟩
  | dK l => obtain ⟨vs, e, r⟩ := h; exact ⟨vs, k.trans e, r.mono t⟩
  | xd l => obtain ⟨vs, e, r⟩ := h; exact ⟨vs, k.trans e, r.mono t⟩
theorem OkM.there {K : Kf} {H : Hp} {a : Addr} {o : MO} (h : OkM K H a o) : H a ≠ none := by
  cases o with
  | lst l => obtain ⟨vs, e, r⟩ := h; rw [e]; simp
  | ro l =>
    obtain ⟨vs, e, r⟩ := h
    rcases e with e | ⟨u, e⟩ <;> rw [e] <;> simp
  | dK l => obtain ⟨vs, e, r⟩ := h; rw [e]; simp
  | xd l => obtain ⟨vs, e, r⟩ := h; rw [e]; simp
theorem RelM.fresh {K : Kf} {H : Hp} {M : PHp} {p : Addr} (h : RelM K H M) (hp : H p = none) : M p = none := by
  cases q : M p with
  | none => rfl
  | some o => exact absurd hp (h p o q).there
/-- a new object that is not of M -/
theorem RelM.new {K : Kf} {H : Hp} {M : PHp} {p : Addr} {o : HO} (h : RelM K H M) (hp : H p = none) : RelM K (L2.upd H p o) M := fun a u e =>
  (h a u e).stay (.new hp) (upd_ne fun q => (h a u e).there (q ▸ hp))
/-- fresh in the heap (a module's own object aside) -/
theorem RelM.put {K : Kf} {H : Hp} {M : PHp} {p : Addr} {o : HO} {m : MO} (h : RelM K H M) (t : Tk K H (L2.upd H p o)) (hm : OkM K (L2.upd H p o) p m) : RelM K (L2.upd H p o) (updM M p m) := fun a u e => by
  by_cases hap : a = p
  · subst hap; rw [updM_same] at e; cases e; exact hm
  · rw [updM_ne hap] at e
    exact (h a u e).stay t (upd_ne hap)
theorem no_tup {H : Hp} {p : Addr} {o : HO} (h : H p = some o) (h1 : ∀ xs, o ≠ .tup xs) (h2 : ∀ u v, o ≠ .frz u v) : ∀ xs, ¬ Rd H p (.tup xs) := fun xs e => by
  rcases e with e | ⟨u, e⟩
  · rw [h] at e; exact h1 xs (Option.some.inj e)
  · rw [h] at e; exact h2 u _ (Option.some.inj e)
theorem Tk.lst {K : Kf} {H : Hp} {p : Addr} {vs : List V} {o : HO} (h : H p = some (.lst vs)) : Tk K H (L2.upd H p o) := .upd (no_tup h (fun _ z => nomatch z) (fun _ _ z => nomatch z))
theorem Tk.dK {K : Kf} {H : Hp} {p : Addr} {vs : List (Key × V)} {o : HO} (h : H p = some (.dK vs)) : Tk K H (L2.upd H p o) := .upd (no_tup h (fun _ z => nomatch z) (fun _ _ z => nomatch z))

/-- a list of the module's own -/
def KL (K : Kf) (a : Addr) (l : List PV) : Prop := ∃ vs, (∃ (o : Obj) (its : Array Value) (n : Nat), K.lookup a = some o ∧ o.cls = .type "list" ∧ o.dict = none ∧ o.data = .seq its n ∧ its.size ≤ sizeLine ∧ Vals vs its.toList) ∧ ∀ H, Reps K H l vs
/-- a list that is read -/
def rdL (K : Kf) (M : PHp) (a : Addr) (l : List PV) : Prop := M a = some (.lst l) ∨ M a = some (.ro l) ∨ KL K a l
theorem rdL.to {K : Kf} {H : Hp} {M : PHp} {a : Addr} {l : List PV} (h : rdL K M a l) (m : RelM K H M) : ∃ vs, SqL K H a vs ∧ Reps K H l vs := by
  rcases h with h | h | ⟨vs, h, r⟩
  · obtain ⟨vs, e, r⟩ := m a _ h
    exact ⟨vs, .of e, r⟩
  · obtain ⟨vs, e, r⟩ := m a _ h
    exact ⟨vs, .inl e, r⟩
  · exact ⟨vs, .inr h, r H⟩

/-! ### slots -/
abbrev PSt := List (Option PV)
abbrev PVK := PV → PHp → Prop
abbrev PXK := Value → Option Addr → PHp → Prop
inductive RelS (K : Kf) (H : Hp) : PSt → L2.St → Prop
  | nil : RelS K H [] []
  | no {ps vs v} : RelS K H ps vs → RelS K H (none :: ps) (v :: vs)
  | yes {p v ps vs} : Rep K H p v → RelS K H ps vs → RelS K H (some p :: ps) (some v :: vs)
theorem RelS.mono {K : Kf} {H H' : Hp} (t : Tk K H H') {ps vs} (h : RelS K H ps vs) : RelS K H' ps vs := by
  induction h with
  | nil => exact .nil
  | no _ ih => exact .no ih
  | yes a _ ih => exact .yes (a.mono t) ih
theorem RelS.get {K : Kf} {H : Hp} : ∀ {σ τ} {i : Nat} {p}, RelS K H σ τ → σ[i]? = some (some p) → ∃ v, τ[i]? = some (some v) ∧ Rep K H p v
  | _, _, _, _, .nil, e => by simp at e
  | _, _, 0, _, .no _, e => by simp at e
  | _, _, 0, _, .yes r _, e => by simp at e; subst e; exact ⟨_, rfl, r⟩
  | _, _, i + 1, p, .no t, e => by
    obtain ⟨u, h1, h2⟩ := RelS.get (i := i) (p := p) t (by simpa using e)
    exact ⟨u, by simpa using h1, h2⟩
  | _, _, i + 1, p, .yes _ t, e => by
    obtain ⟨u, h1, h2⟩ := RelS.get (i := i) (p := p) t (by simpa using e)
    exact ⟨u, by simpa using h1, h2⟩
theorem RelS.set {K : Kf} {H : Hp} {p v} (r : Rep K H p v) : ∀ {σ τ} (i : Nat), RelS K H σ τ → RelS K H (σ.set i (some p)) (τ.set i (some v))
  | _, _, _, .nil => .nil
  | _, _, 0, .no t => .yes r t
  | _, _, 0, .yes _ t => .yes r t
  | _, _, i + 1, .no t => .no (RelS.set r i t)
  | _, _, i + 1, .yes q t => .yes q (RelS.set r i t)
/-- forgotten slots -/
inductive SubS : PSt → PSt → Prop
  | nil : SubS [] []
  | none {x a b} : SubS a b → SubS (Option.none :: a) (x :: b)
  | same {x a b} : SubS a b → SubS (x :: a) (x :: b)
theorem SubS.refl : ∀ σ : PSt, SubS σ σ
  | [] => .nil
  | _ :: r => .same (SubS.refl r)
theorem RelS.sub {K : Kf} {H : Hp} {σ0 σ : PSt} {τ : L2.St} (h : RelS K H σ τ) (s : SubS σ0 σ) : RelS K H σ0 τ := by
  induction s generalizing τ with
  | nil => exact h
  | none _ ih =>
    cases h with
    | no t => exact .no (ih t)
    | yes r t => exact .no (ih t)
  | same _ ih =>
    cases h with
    | no t => exact .no (ih t)
    | yes r t => exact .yes r (ih t)
theorem RelS.length {K : Kf} {H : Hp} {σ : PSt} {τ : L2.St} (h : RelS K H σ τ) : σ.length = τ.length := by
  induction h with
  | nil => rfl
  | no _ ih => exact congrArg (· + 1) ih
  | yes _ _ ih => exact congrArg (· + 1) ih

/-! ### readings -/
abbrev TEp := PSt → PHp → PVK → Prop
abbrev TTp := PSt → PHp → (Bool → PHp → Prop) → Prop
abbrev TAp := PSt → PHp → (List PV → PHp → Prop) → Prop
structure PEnds where
  nx : PSt → PHp → Prop
  rt : PVK
  bk : PSt → PHp → Prop := fun _ _ => False
  ct : PSt → PHp → Prop := fun _ _ => False
abbrev TSp := PEnds → PSt → PHp → Prop
section
variable (K : Kf) (H0 : Hp)
def concE (u : TEp) : TE := fun σ H Q => ∃ σp M Qp, Tk K H0 H ∧ RelS K H σp σ ∧ RelM K H M ∧ u σp M Qp ∧ ∀ v H' p M', Tk K H H' → RelM K H' M' → Rep K H' p v → Qp p M' → Q v H'
def concT (u : TTp) : TT := fun σ H Q => ∃ σp M Qp, Tk K H0 H ∧ RelS K H σp σ ∧ RelM K H M ∧ u σp M Qp ∧ ∀ b H' M', Tk K H H' → RelM K H' M' → Qp b M' → Q b H'
def concA (u : TAp) : TA := fun σ H Q => ∃ σp M Qp, Tk K H0 H ∧ RelS K H σp σ ∧ RelM K H M ∧ u σp M Qp ∧ ∀ vs H' ps M', Tk K H H' → RelM K H' M' → Reps K H' ps vs → Qp ps M' → Q vs H'
structure EndsRel (H : Hp) (D : Ends) (Dp : PEnds) : Prop where
  nx : ∀ σ H' σp M', Tk K H H' → RelS K H' σp σ → RelM K H' M' → Dp.nx σp M' → D.nx σ H'
  rt : ∀ v H' p M', Tk K H H' → RelM K H' M' → Rep K H' p v → Dp.rt p M' → D.rt v H'
  bk : ∀ σ H' σp M', Tk K H H' → RelS K H' σp σ → RelM K H' M' → Dp.bk σp M' → D.bk σ H'
  ct : ∀ σ H' σp M', Tk K H H' → RelS K H' σp σ → RelM K H' M' → Dp.ct σp M' → D.ct σ H'
def concS (u : TSp) : TS := fun D σ H => ∃ σp M Dp, Tk K H0 H ∧ RelS K H σp σ ∧ RelM K H M ∧ u Dp σp M ∧ EndsRel K H D Dp
end
theorem EndsRel.mono {K : Kf} {H H' : Hp} {D : Ends} {Dp : PEnds} (h : EndsRel K H D Dp) (t : Tk K H H') : EndsRel K H' D Dp :=
  ⟨fun a b c d e => h.nx a b c d (t.trans e), fun a b c d e => h.rt a b c d (t.trans e), fun a b c d e => h.bk a b c d (t.trans e), fun a b c d e => h.ct a b c d (t.trans e)⟩
abbrev PEp (X : Cx) (H0 : Hp) (e : Expr) (u : TEp) : Prop := PE X e (concE X.K H0 u)
abbrev PTp (X : Cx) (H0 : Hp) (e : Expr) (u : TTp) : Prop := PT X e (concT X.K H0 u)
abbrev PWp (X : Cx) (H0 : Hp) (e : Expr) (u : TTp) : Prop := PW X e (concT X.K H0 u)
abbrev PAp (X : Cx) (H0 : Hp) (es : List Expr) (u : TAp) : Prop := PA X es (concA X.K H0 u)
abbrev PSp' (X : Cx) (H0 : Hp) (s : Stmt) (u : TSp) : Prop := PS X s (concS X.K H0 u)
abbrev PSsp (X : Cx) (H0 : Hp) (s : List Stmt) (u : TSp) : Prop := PSs X s (concS X.K H0 u)
/-- a weaker reading -/
theorem peW {X : Cx} {e : Expr} {t t' : TE} (h : PE X e t) (w : ∀ σ H Q, t' σ H Q → t σ H Q) : PE X e t' := ⟨fun pins s σ H Q I q => h.run pins s σ H Q I (w _ _ _ q)⟩
theorem ptW {X : Cx} {e : Expr} {t t' : TT} (h : PT X e t) (w : ∀ σ H Q, t' σ H Q → t σ H Q) : PT X e t' := ⟨fun pins s σ H Q I q => h.run pins s σ H Q I (w _ _ _ q)⟩
theorem pwW {X : Cx} {e : Expr} {t t' : TT} (h : PW X e t) (w : ∀ σ H Q, t' σ H Q → t σ H Q) : PW X e t' := ⟨fun wh pins s σ H Q I q => h.run wh pins s σ H Q I (w _ _ _ q)⟩
theorem paW {X : Cx} {e : List Expr} {t t' : TA} (h : PA X e t) (w : ∀ σ H Q, t' σ H Q → t σ H Q) : PA X e t' := ⟨fun pos pins s σ H Q I q => h.run pos pins s σ H Q I (w _ _ _ q)⟩
theorem psW {X : Cx} {e : Stmt} {t t' : TS} (h : PS X e t) (w : ∀ D σ H, t' D σ H → t D σ H) : PS X e t' := ⟨fun pins s σ H D I q => h.run pins s σ H D I (w _ _ _ q)⟩
theorem pssW {X : Cx} {e : List Stmt} {t t' : TS} (h : PSs X e t) (w : ∀ D σ H, t' D σ H → t D σ H) : PSs X e t' := ⟨fun pins s σ H D I q => h.run pins s σ H D I (w _ _ _ q)⟩
theorem concE.use {K : Kf} {H0 : Hp} {u : TEp} {σ : L2.St} {H : Hp} {Q : VK} {σp : PSt} {M : PHp} {Qp : PVK} (h : u σp M Qp) (t : Tk K H0 H) (s : RelS K H σp σ) (m : RelM K H M)
    (k : ∀ v H' p M', Tk K H H' → RelM K H' M' → Rep K H' p v → Qp p M' → Q v H') : concE K H0 u σ H Q := ⟨σp, M, Qp, t, s, m, h, k⟩

/-! ### leaves -/
section
variable {X : Cx} {H0 : Hp} {pos : Pos}
@[reducible] def tv (i : Nat) : TEp := fun σ M Q => match σ[i]? with | some (some p) => Q p M | _ => False
@[reducible] def tc (p : PV) : TEp := fun _ M Q => Q p M
theorem pv (i : Nat) {x : Str} (hN : X.N[i]? = some x := by rfl) (hv : Vis X.env.scope x := by first | exact Or.inl rfl | exact Or.inr (Or.inl rfl) | exact Or.inr (Or.inr rfl)) (hd : (x == ("__debug__" : Str)) = false := by decide)
    (hcd : (x == ("__classdict__" : Str)) = false := by decide) : PEp X H0 (.Name x pos) (tv i) :=
  peW (pe_var hN hv hd hcd) fun σ H Q ⟨σp, M, Qp, t, s, m, u, k⟩ => by
    unfold tv at u
    split at u
    · next p e =>
      obtain ⟨v, e1, r⟩ := s.get e
      exact ⟨v, e1, k v H p M (Tk.refl _ _) m r u⟩
    · exact u.elim
theorem pinT {i : Int} {j} : PEp X H0 (.Constant (.int i) j pos) (tc (.int i)) := peW pe_int fun σ H Q ⟨_, M, _, _, _, m, u, k⟩ => k _ H _ M (Tk.refl _ _) m (.int i) u
theorem pbl {i : Bool} {j} : PEp X H0 (.Constant (.bool i) j pos) (tc (.bl i)) := peW pe_bl fun σ H Q ⟨_, M, _, _, _, m, u, k⟩ => k _ H _ M (Tk.refl _ _) m (.bl i) u
theorem pnon {j} : PEp X H0 (.Constant .none j pos) (tc .non) := peW pe_non fun σ H Q ⟨_, M, _, _, _, m, u, k⟩ => k _ H _ M (Tk.refl _ _) m .non u
theorem pstr {x j} : PEp X H0 (.Constant (.str x) j pos) (tc (.str x)) := peW pe_str fun σ H Q ⟨_, M, _, _, _, m, u, k⟩ => k _ H _ M (Tk.refl _ _) m (.str x) u
/-- the module's own constant -/
theorem pglob {x : Str} {p : PV} {v : V} {u : Value} (hg : Gl X x) (hm : X.mg x = some u) (r : RelV v u) (hr : ∀ H, Rep X.K H p v) (hd : (x == ("__debug__" : Str)) = false := by decide) : PEp X H0 (.Name x pos) (tc p) :=
  peW (pe_glob hg hm r hd) fun σ H Q ⟨_, M, _, _, _, m, u, k⟩ => k _ H _ M (Tk.refl _ _) m (hr H) u
theorem pbltn {x : Str} {p : PV} {v : V} {u : Value} (hg : Gl X x) (hm : X.mg x = none) (hv : bootBuiltins x = some u) (r : RelV v u) (hr : ∀ H, Rep X.K H p v) (hn : x ≠ "__name__" := by decide) (hd : (x == ("__debug__" : Str)) = false := by decide) : PEp X H0 (.Name x pos) (tc p) :=
  peW (pe_bltn hg hm hv r hn hd) fun σ H Q ⟨_, M, _, _, _, m, u, k⟩ => k _ H _ M (Tk.refl _ _) m (hr H) u

/-! ### two-place operations on values -/
abbrev R2p := PV → PV → PHp → PVK → Prop
def SimR (K : Kf) (r : R2) (u : R2p) : Prop := ∀ x y H px py M (Q : VK) (Qp : PVK), Rep K H px x → Rep K H py y → RelM K H M → u px py M Qp → (∀ v H' p M', Tk K H H' → RelM K H' M' → Rep K H' p v → Qp p M' → Q v H') → r x y H Q
abbrev R1p := PV → PHp → PVK → Prop
def SimU (K : Kf) (r : V → Hp → VK → Prop) (u : R1p) : Prop := ∀ x H px M (Q : VK) (Qp : PVK), Rep K H px x → RelM K H M → u px M Qp → (∀ v H' p M', Tk K H H' → RelM K H' M' → Rep K H' p v → Qp p M' → Q v H') → r x H Q
abbrev RCp := List PV → PHp → PVK → Prop
def SimC (K : Kf) (r : List V → Hp → VK → Prop) (u : RCp) : Prop := ∀ xs H ps M (Q : VK) (Qp : PVK), Reps K H ps xs → RelM K H M → u ps M Qp → (∀ v H' p M', Tk K H H' → RelM K H' M' → Rep K H' p v → Qp p M' → Q v H') → r xs H Q
def OpP (X : Cx) (f : Value → Value → Sem Value) (u : R2p) : Prop := ∃ r, OpR X f r ∧ SimR X.K r u
def UnP (X : Cx) (f : Value → Sem Value) (u : R1p) : Prop := ∃ r, UnR X f r ∧ SimU X.K r u
def CallP (X : Cx) (f : Value) (u : RCp) : Prop := ∃ r, CallR X f r ∧ SimC X.K r u
@[reducible] def tOp (r : R2p) (ta tb : TEp) : TEp := fun σ M Q => ta σ M fun x M1 => tb σ M1 fun y M2 => r x y M2 Q
@[reducible] def tUn (r : R1p) (ta : TEp) : TEp := fun σ M Q => ta σ M fun x M1 => r x M1 Q
variable {a b : Expr} {ta tb : TEp} {r : R2p}
theorem op_conc {K : Kf} {r0 : R2} (hs : SimR K r0 r) {σ : L2.St} {H : Hp} {Q : VK} (h : concE K H0 (tOp r ta tb) σ H Q) : L2.tOp r0 (concE K H0 ta) (concE K H0 tb) σ H Q := by
  obtain ⟨σp, M, Qp, t, s, m, u, k⟩ := h
  refine ⟨σp, M, _, t, s, m, u, fun x H1 px M1 t1 m1 rx u1 => ?_⟩
  refine ⟨σp, M1, _, t.trans t1, s.mono t1, m1, u1, fun y H2 py M2 t2 m2 ry u2 => ?_⟩
  exact hs x y H2 px py M2 Q Qp (rx.mono t2) ry m2 u2 fun v H3 p M3 t3 m3 rv q => k v H3 p M3 ((t1.trans t2).trans t3) m3 rv q
theorem pop {op : Operator} (ho : OpP X (binaryOp op) r) (ha : PEp X H0 a ta) (hb : PEp X H0 b tb) : PEp X H0 (.BinOp a op b pos) (tOp r ta tb) := by
  obtain ⟨r0, h1, h2⟩ := ho
  exact peW (pe_op h1 ha hb) fun σ H Q h => op_conc h2 h
theorem pun {op : UnaryOp} {r : R1p} (ho : UnP X (unaryOp op) r) (ha : PEp X H0 a ta) : PEp X H0 (.UnaryOp op a pos) (tUn r ta) := by
  obtain ⟨r0, h1, h2⟩ := ho
  exact peW (pe_un h1 ha) fun σ H Q ⟨σp, M, Qp, t, s, m, u, k⟩ => ⟨σp, M, _, t, s, m, u, fun x H1 px M1 t1 m1 rx u1 => h2 x H1 px M1 Q Qp rx m1 u1 fun v H2 p M2 t2 m2 rv q => k v H2 p M2 (t1.trans t2) m2 rv q⟩
theorem pcmp {op : CmpOp} (ho : OpP X (compareOp op) r) (ha : PEp X H0 a ta) (hb : PEp X H0 b tb) (hm : behindInMarks op b = false) : PEp X H0 (.Compare a [op] [b] pos) (tOp r ta tb) := by
  obtain ⟨r0, h1, h2⟩ := ho
  exact peW (pe_cmpR h1 ha hb hm) fun σ H Q h => op_conc h2 h
/-! ### tests -/
@[reducible] def tB (t : TEp) : TTp := fun σ M Q => t σ M fun x M1 => match x with | .bl c => Q c M1 | _ => False
theorem tB_conc {K : Kf} {te : TEp} {σ : L2.St} {H : Hp} {Q : Bool → Hp → Prop} (h : concT K H0 (tB te) σ H Q) : concE K H0 te σ H fun x H' => ∃ k, x = .bl k ∧ Q k H' := by
  obtain ⟨σp, M, Qp, t, s, m, u, k⟩ := h
  refine ⟨σp, M, _, t, s, m, u, fun x H1 px M1 t1 m1 rx u1 => ?_⟩
  cases rx with
  | bl c => exact ⟨c, rfl, k c H1 M1 t1 m1 u1⟩
  | _ => exact u1.elim
theorem op_conc' {K : Kf} {r0 : R2} (hs : SimR K r0 r) {σ : L2.St} {H : Hp} {Q : Bool → Hp → Prop} (h : concT K H0 (tB (tOp r ta tb)) σ H Q) : tTest (L2.tOp r0 (concE K H0 ta) (concE K H0 tb)) σ H Q := by
  have h2 := tB_conc h
  exact op_conc hs h2
theorem ptcmp {op : CmpOp} (ho : OpP X (compareOp op) r) (ha : PEp X H0 a ta) (hb : PEp X H0 b tb) (hm : behindInMarks op b = false) : PTp X H0 (.Compare a [op] [b] pos) (tB (tOp r ta tb)) := by
  obtain ⟨r0, h1, h2⟩ := ho
  exact ptW (pt_cmpR h1 ha hb hm) fun σ H Q h => op_conc' h2 h
theorem ptval {e : Expr} {te : TEp} (h : PEp X H0 e te) (he : ∀ whole, isTrue e X.env whole = (do let v ← whole; standAt e.pos; holding [v] (truthy v)) := by intro _; rfl) : PTp X H0 e (tB te) :=
  ptW (pt_val h he) fun σ H Q h => tB_conc h
/-- two ways -/
@[irreducible] def br (b : Bool) (A B : Prop) : Prop := if b = true then A else B
theorem br_of {b : Bool} {A B : Prop} (h1 : b = true → A) (h2 : b = false → B) : br b A B := by
  unfold br; cases b
  · rw [if_neg Bool.false_ne_true]; exact h2 rfl
  · rw [if_pos rfl]; exact h1 rfl
theorem br_t {b : Bool} {A B : Prop} (h : b = true) (h1 : A) : br b A B := br_of (fun _ => h1) fun e => by rw [h] at e; cases e
theorem br_f {b : Bool} {A B : Prop} (h : b = false) (h1 : B) : br b A B := br_of (fun e => by rw [h] at e; cases e) fun _ => h1
theorem br_tt {A B : Prop} (h : A) : br true A B := br_t rfl h
theorem br_ff {A B : Prop} (h : B) : br false A B := br_f rfl h
theorem br_nt {A B : Prop} (h : B) : br (!true) A B := br_f rfl h
theorem br_nf {A B : Prop} (h : A) : br (!false) A B := br_t rfl h
theorem br_dec {c A B : Prop} [Decidable c] (h1 : c → A) (h2 : ¬ c → B) : br (decide c) A B := br_of (fun e => h1 (of_decide_eq_true e)) fun e => h2 (of_decide_eq_false e)
theorem br_ndec {c A B : Prop} [Decidable c] (h1 : ¬ c → A) (h2 : c → B) : br (!decide c) A B := br_of (fun e => h1 (by simpa using e)) fun e => h2 (by simpa using e)
theorem br_ite {b : Bool} {A B : Prop} (h : br b A B) : if b = true then A else B := by unfold br at h; exact h
theorem br_imp {b : Bool} {A B A' B' : Prop} (h : br b A B) (h1 : A → A') (h2 : B → B') : if b = true then A' else B' := by
  unfold br at h; cases b
  · rw [if_neg Bool.false_ne_true] at h ⊢; exact h2 h
  · rw [if_pos rfl] at h ⊢; exact h1 h
@[reducible] def tAnd (t u : TTp) : TTp := fun σ M Q => t σ M fun c M1 => br c (u σ M1 Q) (Q false M1)
@[reducible] def tOr (t u : TTp) : TTp := fun σ M Q => t σ M fun c M1 => br c (Q true M1) (u σ M1 Q)
@[reducible] def tNot (t : TTp) : TTp := fun σ M Q => t σ M fun c M1 => Q (!c) M1
variable {tt uu : TTp} {rest : List Expr}
theorem pwand1 (ha : PTp X H0 a tt) : PWp X H0 (.BoolOp .And [a] pos) tt := pw_and1 ha
theorem pwor1 (ha : PTp X H0 a tt) : PWp X H0 (.BoolOp .Or [a] pos) tt := pw_or1 ha
theorem pwand (ha : PTp X H0 a tt) (hb : PWp X H0 (.BoolOp .And (b :: rest) pos) uu) : PWp X H0 (.BoolOp .And (a :: b :: rest) pos) (tAnd tt uu) :=
  pwW (pw_and ha hb) fun σ H Q ⟨σp, M, Qp, t, s, m, u, k⟩ => ⟨σp, M, _, t, s, m, u, fun c H1 M1 t1 m1 u1 => br_imp u1 (fun q => ⟨σp, M1, Qp, t.trans t1, s.mono t1, m1, q, fun d H2 M2 t2 => k d H2 M2 (t1.trans t2)⟩) fun q => k false H1 M1 t1 m1 q⟩
theorem pwor (ha : PTp X H0 a tt) (hb : PWp X H0 (.BoolOp .Or (b :: rest) pos) uu) : PWp X H0 (.BoolOp .Or (a :: b :: rest) pos) (tOr tt uu) :=
  pwW (pw_or ha hb) fun σ H Q ⟨σp, M, Qp, t, s, m, u, k⟩ => ⟨σp, M, _, t, s, m, u, fun c H1 M1 t1 m1 u1 => br_imp u1 (fun q => k true H1 M1 t1 m1 q) fun q => ⟨σp, M1, Qp, t.trans t1, s.mono t1, m1, q, fun d H2 M2 t2 => k d H2 M2 (t1.trans t2)⟩⟩
theorem ptnot (ha : PTp X H0 a tt) : PTp X H0 (.UnaryOp .Not a pos) (tNot tt) :=
  ptW (pt_not ha) fun σ H Q ⟨σp, M, Qp, t, s, m, u, k⟩ => ⟨σp, M, _, t, s, m, u, fun c H1 M1 t1 m1 u1 => k (!c) H1 M1 t1 m1 u1⟩
/-! ### and, or, not as values of truth -/
@[reducible] def tAndV (ta tb : TEp) : TEp := fun σ M Q => ta σ M fun x M1 => match x with | .bl c => br c (tb σ M1 Q) (Q (.bl false) M1) | _ => False
@[reducible] def tOrV (ta tb : TEp) : TEp := fun σ M Q => ta σ M fun x M1 => match x with | .bl c => br c (Q (.bl true) M1) (tb σ M1 Q) | _ => False
@[reducible] def tNotV (ta : TEp) : TEp := fun σ M Q => ta σ M fun x M1 => match x with | .bl c => Q (.bl (!c)) M1 | _ => False
theorem pone {op} (h : PEp X H0 a ta) : PEp X H0 (.BoolOp op [a] pos) ta := pe_one h
theorem pand (ha : PEp X H0 a ta) (hb : PEp X H0 (.BoolOp .And (b :: rest) pos) tb) : PEp X H0 (.BoolOp .And (a :: b :: rest) pos) (tAndV ta tb) :=
  peW (pe_and ha hb) fun σ H Q ⟨σp, M, Qp, t, s, m, u, k⟩ => ⟨σp, M, _, t, s, m, u, fun x H1 px M1 t1 m1 rx u1 => by
    cases rx with
    | bl c => exact ⟨c, rfl, br_imp u1 (fun q => ⟨σp, M1, Qp, t.trans t1, s.mono t1, m1, q, fun v H2 p M2 t2 => k v H2 p M2 (t1.trans t2)⟩) fun q => k _ H1 _ M1 t1 m1 (.bl false) q⟩
    | _ => exact u1.elim⟩
theorem por (ha : PEp X H0 a ta) (hb : PEp X H0 (.BoolOp .Or (b :: rest) pos) tb) : PEp X H0 (.BoolOp .Or (a :: b :: rest) pos) (tOrV ta tb) :=
  peW (pe_or ha hb) fun σ H Q ⟨σp, M, Qp, t, s, m, u, k⟩ => ⟨σp, M, _, t, s, m, u, fun x H1 px M1 t1 m1 rx u1 => by
    cases rx with
    | bl c => exact ⟨c, rfl, br_imp u1 (fun q => k _ H1 _ M1 t1 m1 (.bl true) q) fun q => ⟨σp, M1, Qp, t.trans t1, s.mono t1, m1, q, fun v H2 p M2 t2 => k v H2 p M2 (t1.trans t2)⟩⟩
    | _ => exact u1.elim⟩
theorem pnot (ha : PEp X H0 a ta) : PEp X H0 (.UnaryOp .Not a pos) (tNotV ta) :=
  peW (pe_not ha) fun σ H Q ⟨σp, M, Qp, t, s, m, u, k⟩ => ⟨σp, M, _, t, s, m, u, fun x H1 px M1 t1 m1 rx u1 => by
    cases rx with
    | bl c => exact ⟨c, rfl, k _ H1 _ M1 t1 m1 (.bl (!c)) u1⟩
    | _ => exact u1.elim⟩
@[reducible] def tIf (t : TTp) (ta tb : TEp) : TEp := fun σ M Q => t σ M fun c M1 => br c (ta σ M1 Q) (tb σ M1 Q)
theorem pifx {c : Expr} (hc : PTp X H0 c tt) (ha : PEp X H0 a ta) (hb : PEp X H0 b tb) : PEp X H0 (.IfExp c a b pos) (tIf tt ta tb) :=
  peW (pe_ifExp hc ha hb) fun σ H Q ⟨σp, M, Qp, t, s, m, u, k⟩ => ⟨σp, M, _, t, s, m, u, fun c H1 M1 t1 m1 u1 => br_imp u1
    (fun q => ⟨σp, M1, Qp, t.trans t1, s.mono t1, m1, q, fun v H2 p M2 t2 => k v H2 p M2 (t1.trans t2)⟩) fun q => ⟨σp, M1, Qp, t.trans t1, s.mono t1, m1, q, fun v H2 p M2 t2 => k v H2 p M2 (t1.trans t2)⟩⟩
/-- a < b < c -/
@[reducible] def tChain (r r' : R2p) (ta tb tc : TEp) : TEp := fun σ M Q => ta σ M fun x M1 => tb σ M1 fun y M2 => r x y M2 fun z M3 => match z with | .bl k => br k (tc σ M3 fun w M4 => r' y w M4 Q) (Q (.bl false) M3) | _ => False
end
end PL

set_option Elab.async false
set_option linter.all false
set_option maxRecDepth 100000
set_option maxHeartbeats 2000000
/-! PL2: operators on values, calls of built-ins, subscripts. -/
namespace PL
open PySem L2
section
variable {X : Cx} {H0 : Hp} {pos : Pos} {K : Kf}

abbrev Kont (K : Kf) (H : Hp) (Q : VK) (Qp : PVK) : Prop := ∀ v H' p M', Tk K H H' → RelM K H' M' → Rep K H' p v → Qp p M' → Q v H'
/-- a new list, a new tuple -/
theorem new_lst {H : Hp} {M : PHp} {p : Addr} {l : List PV} {vs : List V} {Q : VK} {Qp : PVK} (m : RelM K H M) (hp : H p = none) (r : Reps K H l vs)
    (u : ∀ p, M p = none → Qp (.ref p) (updM M p (.lst l))) (k : Kont K H Q Qp) : Q (.ref p) (upd H p (.lst vs)) := by
  have t : Tk K H (upd H p (.lst vs)) := .new hp
  exact k _ _ _ _ t (m.put (m := .lst l) t ⟨vs, upd_same, r.mono t⟩) (.ref p) (u p (m.fresh hp))
theorem new_tup {H : Hp} {M : PHp} {p : Addr} {l : List PV} {vs : List V} {Q : VK} {Qp : PVK} (m : RelM K H M) (hp : H p = none) (r : Reps K H l vs)
    (u : Qp (.tup l) M) (k : Kont K H Q Qp) : Q (.ref p) (upd H p (.tup vs)) := by
  have t : Tk K H (upd H p (.tup vs)) := .new hp
  exact k _ _ _ _ t (m.new hp) (.tup (.of upd_same) (r.mono t)) u
theorem old_tup {H : Hp} {M : PHp} {p : Addr} {l : List PV} {vs : List V} {Q : VK} {Qp : PVK} (m : RelM K H M) (h : SqT K H p vs) (r : Reps K H l vs)
    (u : Qp (.tup l) M) (k : Kont K H Q Qp) : Q (.ref p) H := k _ _ _ _ (Tk.refl _ _) m (.tup h r) u

/-! ### + - * // % ** -/
def addP : R2p := fun x y M Q => match x, y with
  | .int i, .int j => Q (.int (i + j)) M
  | .str a, .str b => a.length + b.length ≤ sizeLine ∧ Q (.str (a ++ b)) M
  | .tup a, .tup b => a.length + b.length ≤ sizeLine ∧ Q (.tup (a ++ b)) M
  | .ref a, .ref b => ∃ xs ys, M a = some (.lst xs) ∧ M b = some (.lst ys) ∧ xs.length + ys.length ≤ sizeLine ∧ ∀ p, M p = none → Q (.ref p) (updM M p (.lst (xs ++ ys)))
  | _, _ => False
theorem opAdd : OpP X (binaryOp .Add) addP := by
  refine ⟨_, op_add.or (op_add_str.or (op_catA.or op_cat)), fun x y H px py M Q Qp rx ry m u k => ?_⟩
  cases rx with
  | int i => cases ry with
    | int j => exact .inl ⟨i, j, rfl, rfl, k _ _ _ _ (Tk.refl _ _) m (.int _) u⟩
    | _ => exact u.elim
  | str i => cases ry with
    | str j => exact .inr (.inl ⟨i, j, rfl, rfl, u.1, k _ _ _ _ (Tk.refl _ _) m (.str _) u.2⟩)
    | _ => exact u.elim
  | tup h r => cases ry with
    | tup h' r' =>
      refine .inr (.inr (.inl ⟨_, _, _, _, rfl, rfl, h, h', by rw [← r.length, ← r'.length]; exact u.1, fun e => ?_, fun _ e => ?_, fun _ _ p hp => new_tup m hp (r.append r') u.2 k⟩))
      · subst e; cases r; exact old_tup m h' r' u.2 k
      · subst e; cases r'; refine old_tup m h r ?_ k
        have := u.2; rwa [List.append_nil] at this
    | _ => exact u.elim
  | ref a => cases ry with
    | ref b =>
      obtain ⟨xs, ys, h1, h2, h3, h4⟩ := u
      obtain ⟨vs, e1, r1⟩ := m _ _ h1
      obtain ⟨ws, e2, r2⟩ := m _ _ h2
      exact .inr (.inr (.inr ⟨_, _, _, _, rfl, rfl, e1, e2, by rw [← r1.length, ← r2.length]; exact h3, fun p hp => new_lst m hp (r1.append r2) h4 k⟩))
    | _ => exact u.elim
  | _ => exact u.elim
def subP : R2p := fun x y M Q => match x, y with
  | .int i, .int j => Q (.int (i - j)) M
  | _, _ => False
theorem opSub : OpP X (binaryOp .Sub) subP := by
  refine ⟨_, op_sub, fun x y H px py M Q Qp rx ry m u k => ?_⟩
  cases rx with
  | int i => cases ry with
    | int j => exact ⟨i, j, rfl, rfl, k _ _ _ _ (Tk.refl _ _) m (.int _) u⟩
    | _ => exact u.elim
  | _ => exact u.elim
/-- the size of an int in bits is at most n -/
def Bt (i : Int) (n : Nat) : Prop := Builtin.Int.intBits i ≤ n
def mulP : R2p := fun x y M Q => match x, y with
  | .int i, .int j => IntMulOk i j ∧ Q (.int (i * j)) M
  | .tup l, .int k => l ≠ [] ∧ 2 ≤ k ∧ k ≤ 1000 ∧ l.length ≤ 1000 ∧ Q (.tup (List.replicate k.toNat l).flatten) M
  | .ref a, .int k => ∃ xs, M a = some (.lst xs) ∧ -(2 ^ 63) ≤ k ∧ k < 2 ^ 63 ∧ xs.length * k.toNat ≤ sizeLine ∧ ∀ p, M p = none → Q (.ref p) (updM M p (.lst (List.replicate k.toNat xs).flatten))
  | _, _ => False
theorem op_mulG : OpR X (binaryOp .Mult) (rI IntMulOk fun i j => .int (i * j)) := opI fun _ _ _ _ _ _ _ hc q => PyProof.Rows.mul_int q hc
theorem Reps.rep {H : Hp} {ps : List PV} {vs : List V} (r : Reps K H ps vs) : ∀ k : Nat, Reps K H (List.replicate k ps).flatten (List.replicate k vs).flatten
  | 0 => .nil
  | k + 1 => by
    simp only [List.replicate_succ, List.flatten_cons]
    exact r.append (Reps.rep r k)
theorem opMul : OpP X (binaryOp .Mult) mulP := by
  refine ⟨_, op_mulG.or (op_repT.or op_rep), fun x y H px py M Q Qp rx ry m u k => ?_⟩
  cases rx with
  | int i => cases ry with
    | int j => exact .inl ⟨i, j, rfl, rfl, u.1, k _ _ _ _ (Tk.refl _ _) m (.int _) u.2⟩
    | _ => exact u.elim
  | tup h r => cases ry with
    | int j =>
      obtain ⟨u1, u2, u3, u4, u5⟩ := u
      exact .inr (.inl ⟨_, _, _, rfl, rfl, h, fun e => u1 (r.nil_iff.mpr e), u2, u3, by rw [← r.length]; exact u4, fun p hp => new_tup m hp (r.rep _) u5 k⟩)
    | _ => exact u.elim
  | ref a => cases ry with
    | int j =>
      obtain ⟨xs, h1, u2, u3, u4, u5⟩ := u
      obtain ⟨vs, e1, r1⟩ := m _ _ h1
      exact .inr (.inr ⟨_, _, _, rfl, rfl, e1, u2, u3, by rw [← r1.length]; exact u4, fun p hp => new_lst m hp (r1.rep _) u5 k⟩)
    | _ => exact u.elim
  | _ => exact u.elim
def modP : R2p := fun x y M Q => match x, y with
  | .int i, .int j => j ≠ 0 ∧ Q (.int (i.fmod j)) M
  | _, _ => False
theorem opMod : OpP X (binaryOp .Mod) modP := by
  refine ⟨_, op_modN, fun x y H px py M Q Qp rx ry m u k => ?_⟩
  cases rx with
  | int i => cases ry with
    | int j => exact ⟨i, j, rfl, rfl, u.1, k _ _ _ _ (Tk.refl _ _) m (.int _) u.2⟩
    | _ => exact u.elim
  | _ => exact u.elim
/-- what // of great ints wants of the whole run -/
structure Sure (P : Program) (base : Heap) : Prop where
  seer : base.NoSeer
  tree : P.given.tree = none
def StackOk (X : Cx) : Prop := ∃ env l, X.stack = env :: l ∧ env.scope.isGenerator = false ∧ env.scope.isCoroutine = false ∧ env.builtins = builtinsNs ∧ env.globals = mainGlobals
def fdivP : R2p := fun x y M Q => match x, y with
  | .int i, .int j => j ≠ 0 ∧ Q (.int (i.fdiv j)) M
  | _, _ => False
theorem pylong_ok {pins : List (Addr × Obj)} {σ : L2.St} {H : Hp} {s : Shared} (I : Inv X pins σ H s) (S : Sure X.prog X.base) (hr : Room 33 X.A) (hst : StackOk X) : PySem.PylongRoom (model X.prog X.w) X.A s := by
  obtain ⟨env, l, e1, e2, e3, e4, e5⟩ := hst
  refine PySem.PylongRoom.of I.nolimit ?_ (PySem.SeerAt.of (env := env) (l := l) (S.seer.keeps I.bk) S.tree (by rw [I.ok.frames, e1]) e2 e3 e4 e5)
  have := hr.dp
  show X.A.depth + 100 < recursionLimit
  omega
theorem op_fdivG (S : Sure X.prog X.base) (hr : Room 33 X.A) (hst : StackOk X) : OpR X (binaryOp .FloorDiv) (rI (fun _ j => j ≠ 0) fun i j => .int (i.fdiv j)) := by
  intro held s σ H x y v u Q I rx ry hh
  obtain ⟨i, j, rfl, rfl, hj, q⟩ := hh
  obtain ⟨t, rfl⟩ := rx
  obtain ⟨t', rfl⟩ := ry
  exact PyProof.Rows.floordiv_int hj ⟨.int _, H, I.tok _, ⟨_, rfl⟩, q⟩ (.inr (pylong_ok I S hr hst))
theorem opFdiv (S : Sure X.prog X.base) (hr : Room 33 X.A) (hst : StackOk X := by exact ⟨_, _, rfl, rfl, rfl, rfl, rfl⟩) : OpP X (binaryOp .FloorDiv) fdivP := by
  refine ⟨_, op_fdivG S hr hst, fun x y H px py M Q Qp rx ry m u k => ?_⟩
  cases rx with
  | int i => cases ry with
    | int j => exact ⟨i, j, rfl, rfl, u.1, k _ _ _ _ (Tk.refl _ _) m (.int _) u.2⟩
    | _ => exact u.elim
  | _ => exact u.elim
def powP : R2p := fun x y M Q => match x, y with
  | .int i, .int j => (0 ≤ j ∧ j ≤ 1000000 ∧ i.natAbs < 2 ^ 64) ∧ Q (.int (i ^ j.toNat)) M
  | _, _ => False
theorem opPow : OpP X (binaryOp .Pow) powP := by
  refine ⟨_, op_pow, fun x y H px py M Q Qp rx ry m u k => ?_⟩
  cases rx with
  | int i => cases ry with
    | int j => exact ⟨i, j, rfl, rfl, u.1, k _ _ _ _ (Tk.refl _ _) m (.int _) u.2⟩
    | _ => exact u.elim
  | _ => exact u.elim
def negP : R1p := fun x M Q => match x with
  | .int i => Q (.int (-i)) M
  | _ => False
theorem unNeg : UnP X (unaryOp .USub) negP := by
  refine ⟨_, un_neg, fun x H px M Q Qp rx m u k => ?_⟩
  cases rx with
  | int i => exact ⟨i, rfl, k _ _ _ _ (Tk.refl _ _) m (.int _) u⟩
  | _ => exact u.elim

/-! ### comparisons -/
def icmp (f : Int → Int → Bool) : R2p := fun x y M Q => match x, y with
  | .int i, .int j => Q (.bl (f i j)) M
  | _, _ => False
theorem op_icmp {op : CmpOp} {f : Int → Int → Bool} (h : OpR X (compareOp op) (rI0 fun i j => .bl (f i j))) : OpP X (compareOp op) (icmp f) := by
  refine ⟨_, h, fun x y H px py M Q Qp rx ry m u k => ?_⟩
  cases rx with
  | int i => cases ry with
    | int j => exact ⟨i, j, rfl, rfl, k _ _ _ _ (Tk.refl _ _) m (.bl _) u⟩
    | _ => exact u.elim
  | _ => exact u.elim
abbrev leP : R2p := icmp fun i j => decide (i ≤ j)
abbrev gtP : R2p := icmp fun i j => decide (j < i)
abbrev geP : R2p := icmp fun i j => decide (j ≤ i)
theorem opLe : OpP X (compareOp .LtE) leP := op_icmp op_le
theorem opGt : OpP X (compareOp .Gt) gtP := op_icmp op_gt
theorem opGe : OpP X (compareOp .GtE) geP := op_icmp op_ge
/-- a < b: ints, texts -/
def ltP : R2p := fun x y M Q => match x, y with
  | .int i, .int j => Q (.bl (decide (i < j))) M
  | .str a, .str b => Q (.bl (decide (a.cps.toList < b.cps.toList))) M
  | .tup a, .tup b => ∃ ns ms, a = ns.map PV.int ∧ b = ms.map PV.int ∧ Q (.bl (HT.lexLt ns ms)) M
  | _, _ => False
theorem opLt (hu : X.A.units < cLine) : OpP X (compareOp .Lt) ltP := by
  refine ⟨_, op_lt.or (op_lt_str.or (op_ltT hu)), fun x y H px py M Q Qp rx ry m u k => ?_⟩
  cases rx with
  | int i => cases ry with
    | int j => exact .inl ⟨i, j, rfl, rfl, k _ _ _ _ (Tk.refl _ _) m (.bl _) u⟩
    | _ => exact u.elim
  | str i => cases ry with
    | str j => exact .inr (.inl ⟨i, j, rfl, rfl, k _ _ _ _ (Tk.refl _ _) m (.bl _) u⟩)
    | _ => exact u.elim
  | tup h r => cases ry with
    | tup h' r' =>
      obtain ⟨ns, ms, rfl, rfl, q⟩ := u
      have e1 := r.ints; have e2 := r'.ints
      subst e1; subst e2
      exact .inr (.inr ⟨_, _, ns, ms, rfl, rfl, h, h', k _ _ _ _ (Tk.refl _ _) m (.bl _) q⟩)
    | _ => exact u.elim
  | _ => exact u.elim
/-! == by content -/
mutual
inductive DpP (K : Kf) (M : PHp) : PV → PyData → Prop
  | non : DpP K M .non .none
  | bl (b) : DpP K M (.bl b) (.bool b)
  | int (b) : DpP K M (.int b) (.int b)
  | str (b) : DpP K M (.str b) (.str b)
  | tup {l ds} : DpsP K M l ds → DpP K M (.tup l) (.tuple ds)
  | lst {a l ds} : rdL K M a l → DpsP K M l ds → DpP K M (.ref a) (.list ds)
inductive DpsP (K : Kf) (M : PHp) : List PV → List PyData → Prop
  | nil : DpsP K M [] []
  | cons {p d ps ds} : DpP K M p d → DpsP K M ps ds → DpsP K M (p :: ps) (d :: ds)
end
mutual
theorem DpP.to {H : Hp} {M : PHp} (m : RelM K H M) : ∀ {p d v}, DpP K M p d → Rep K H p v → Dp K H v d
  | _, _, _, .non, .non => .non
  | _, _, _, .bl b, .bl _ => .bl b
  | _, _, _, .int b, .int _ => .int b
  | _, _, _, .str b, .str _ => .str b
  | _, _, _, .tup h, .tup a r => .tup a (DpsP.to m h r)
  | _, _, _, .lst h q, .ref _ => let ⟨_, e, r⟩ := h.to m; .lst e (DpsP.to m q r)
theorem DpsP.to {H : Hp} {M : PHp} (m : RelM K H M) : ∀ {p d v}, DpsP K M p d → Reps K H p v → DpAll K H v d
  | _, _, _, .nil, .nil => .nil
  | _, _, _, .cons h q, .cons r s => .cons (DpP.to m h r) (DpsP.to m q s)
end
@[irreducible] def eqD (K : Kf) (x y : PV) (M : PHp) (Q : Bool → Prop) : Prop := ∃ d e, DpP K M x d ∧ DpP K M y e ∧ SeqAt.shaped d = true ∧ SeqAt.shaped e = true ∧ Q (PyData.eqv d e)
theorem eqD_of {x y : PV} {M : PHp} {Q : Bool → Prop} {d e : PyData} (h1 : DpP K M x d) (h2 : DpP K M y e) (h3 : SeqAt.shaped d = true) (h4 : SeqAt.shaped e = true) (q : Q (PyData.eqv d e)) : eqD K x y M Q := by
  unfold eqD; exact ⟨d, e, h1, h2, h3, h4, q⟩
theorem eqD_to {x y : PV} {M : PHp} {Q : Bool → Prop} (h : eqD K x y M Q) : ∃ d e, DpP K M x d ∧ DpP K M y e ∧ SeqAt.shaped d = true ∧ SeqAt.shaped e = true ∧ Q (PyData.eqv d e) := by
  unfold eqD at h; exact h
/-- of one kind, plainly -/
def eqP (K : Kf) : R2p := fun x y M Q => match x, y with
  | .int i, .int j => Q (.bl (decide (i = j))) M
  | .str i, .str j => Q (.bl (decide (i = j))) M
  | .bl i, .bl j => Q (.bl (decide (i = j))) M
  | x, y => eqD K x y M fun b => Q (.bl b) M
def neP (K : Kf) : R2p := fun x y M Q => match x, y with
  | .int i, .int j => Q (.bl (!decide (i = j))) M
  | .str i, .str j => Q (.bl (!decide (i = j))) M
  | .bl i, .bl j => Q (.bl (!decide (i = j))) M
  | x, y => eqD K x y M fun b => Q (.bl (!b)) M
theorem dV_int {i j : Int} : decide (V.int i = V.int j) = decide (i = j) := by by_cases h : i = j <;> simp [h]
theorem dV_str {i j : Str} : decide (V.str i = V.str j) = decide (i = j) := by by_cases h : i = j <;> simp [h]
theorem dV_bl {i j : Bool} : decide (V.bl i = V.bl j) = decide (i = j) := by by_cases h : i = j <;> simp [h]
theorem opEq (hu : X.A.units + 64 < cLine) : OpP X (compareOp .Eq) (eqP X.K) := by
  refine ⟨_, op_eq.or (op_eqD hu), fun x y H px py M Q Qp rx ry m u k => ?_⟩
  have deep : eqD X.K px py M (fun b => Qp (.bl b) M) → rEq x y H Q ∨ rEqD X.K x y H Q := fun h => let ⟨d, e, h1, h2, h3, h4, q⟩ := eqD_to h; .inr ⟨d, e, h1.to m rx, h2.to m ry, h3, h4, k _ _ _ _ (Tk.refl _ _) m (.bl _) q⟩
  cases rx with
  | int i => cases ry with
    | int j => exact .inl ⟨rfl, by rw [dV_int]; exact k _ _ _ _ (Tk.refl _ _) m (.bl _) u⟩
    | _ => exact deep u
  | str i => cases ry with
    | str j => exact .inl ⟨rfl, by rw [dV_str]; exact k _ _ _ _ (Tk.refl _ _) m (.bl _) u⟩
    | _ => exact deep u
  | bl i => cases ry with
    | bl j => exact .inl ⟨rfl, by rw [dV_bl]; exact k _ _ _ _ (Tk.refl _ _) m (.bl _) u⟩
    | _ => exact deep u
  | _ => exact deep u
theorem opNe (hu : X.A.units + 64 < cLine) : OpP X (compareOp .NotEq) (neP X.K) := by
  refine ⟨_, op_ne.or (op_neD hu), fun x y H px py M Q Qp rx ry m u k => ?_⟩
  have deep : eqD X.K px py M (fun b => Qp (.bl (!b)) M) → rNe x y H Q ∨ rNeD X.K x y H Q := fun h => let ⟨d, e, h1, h2, h3, h4, q⟩ := eqD_to h; .inr ⟨d, e, h1.to m rx, h2.to m ry, h3, h4, k _ _ _ _ (Tk.refl _ _) m (.bl _) q⟩
  cases rx with
  | int i => cases ry with
    | int j => exact .inl ⟨rfl, by rw [dV_int]; exact k _ _ _ _ (Tk.refl _ _) m (.bl _) u⟩
    | _ => exact deep u
  | str i => cases ry with
    | str j => exact .inl ⟨rfl, by rw [dV_str]; exact k _ _ _ _ (Tk.refl _ _) m (.bl _) u⟩
    | _ => exact deep u
  | bl i => cases ry with
    | bl j => exact .inl ⟨rfl, by rw [dV_bl]; exact k _ _ _ _ (Tk.refl _ _) m (.bl _) u⟩
    | _ => exact deep u
  | _ => exact deep u
/-- is None -/
def isNP : R2p := fun x y M Q => match y with
  | .non => (match x with | .non => Q (.bl true) M | _ => Q (.bl false) M)
  | _ => False
def notNP : R2p := fun x y M Q => match y with
  | .non => (match x with | .non => Q (.bl false) M | _ => Q (.bl true) M)
  | _ => False
theorem opIsN : OpP X (compareOp .Is) isNP := by
  refine ⟨_, op_isN, fun x y H px py M Q Qp rx ry m u k => ?_⟩
  cases ry with
  | non => cases rx <;> exact ⟨rfl, k _ _ _ _ (Tk.refl _ _) m (.bl _) u⟩
  | _ => exact u.elim
theorem opNotN : OpP X (compareOp .IsNot) notNP := by
  refine ⟨_, op_notN, fun x y H px py M Q Qp rx ry m u k => ?_⟩
  cases ry with
  | non => cases rx <;> exact ⟨rfl, k _ _ _ _ (Tk.refl _ _) m (.bl _) u⟩
  | _ => exact u.elim

/-! ### x in xs -/
def flatP : PV → Bool
  | .non | .bl _ | .int _ | .str _ => true
  | _ => false
def flEq : PV → PV → Bool
  | .int i, .int j => decide (i = j)
  | .str i, .str j => decide (i = j)
  | .bl i, .bl j => decide (i = j)
  | .non, .non => true
  | .int i, .bl b => i == (if b then 1 else 0)
  | .bl b, .int i => (if b then 1 else 0) == i
  | _, _ => false
end
end PL

set_option Elab.async false
set_option linter.all false
set_option maxRecDepth 100000
set_option maxHeartbeats 2000000
/-! PL3: arguments, displays, calls, subscripts, statements, defs. -/
namespace PL
open PySem L2
theorem szl {n : Nat} (h : Nat.ble n 1000 = true) : n ≤ sizeLine := Nat.le_trans (Nat.le_of_ble_eq_true h) (by rw [sizeLine_eq]; decide)
section
variable {X : Cx} {H0 : Hp} {pos : Pos} {K : Kf}
/-! ### arguments, displays -/
@[reducible] def tNil : TAp := fun _ M Q => Q [] M
@[reducible] def tCons (ta : TEp) (tr : TAp) : TAp := fun σ M Q => ta σ M fun x M1 => tr σ M1 fun xs M2 => Q (x :: xs) M2
variable {e : Expr} {es : List Expr} {te : TEp} {ta : TAp}
theorem panil : PAp X H0 [] tNil := paW pa_nil fun σ H Q ⟨_, M, _, _, _, m, u, k⟩ => k [] H [] M (Tk.refl _ _) m .nil u
theorem pacons (ha : PEp X H0 e te) (hr : PAp X H0 es ta) (hs : starEach (e :: es) X.env = (false, eval e X.env) :: starEach es X.env := by rfl) : PAp X H0 (e :: es) (tCons te ta) :=
  paW (pa_cons ha hr hs) fun σ H Q ⟨σp, M, Qp, t, s, m, u, k⟩ => ⟨σp, M, _, t, s, m, u, fun x H1 px M1 t1 m1 rx u1 =>
    ⟨σp, M1, _, t.trans t1, s.mono t1, m1, u1, fun xs H2 ps M2 t2 m2 rs u2 => k _ H2 _ M2 (t1.trans t2) m2 (.cons (rx.mono t2) rs) u2⟩⟩
@[reducible] def tTup (ta : TAp) : TEp := fun σ M Q => ta σ M fun xs M1 => xs.length ≤ sizeLine ∧ Q (.tup xs) M1
@[reducible] def tLst (ta : TAp) : TEp := fun σ M Q => ta σ M fun xs M1 => xs.length ≤ sizeLine ∧ ∀ p, M1 p = none → Q (.ref p) (updM M1 p (.lst xs))
theorem ptup {x1} (h : PAp X H0 es ta) : PEp X H0 (.Tuple es x1 pos) (tTup ta) :=
  peW (pe_tup h) fun σ H Q ⟨σp, M, Qp, t, s, m, u, k⟩ => ⟨σp, M, _, t, s, m, u, fun xs H1 ps M1 t1 m1 rs u1 => ⟨by rw [← rs.length]; exact u1.1, fun p hp => new_tup m1 hp rs u1.2 fun v H2 q M2 t2 => k v H2 q M2 (t1.trans t2)⟩⟩
theorem plst (h : PAp X H0 es ta) : PEp X H0 (.List es pos) (tLst ta) :=
  peW (pe_lst h) fun σ H Q ⟨σp, M, Qp, t, s, m, u, k⟩ => ⟨σp, M, _, t, s, m, u, fun xs H1 ps M1 t1 m1 rs u1 => ⟨by rw [← rs.length]; exact u1.1, fun p hp => new_lst m1 hp rs u1.2 fun v H2 q M2 t2 => k v H2 q M2 (t1.trans t2)⟩⟩

/-! ### calls -/
@[reducible] def tCB (u : RCp) (ta : TAp) : TEp := fun σ M Q => ta σ M fun ps M1 => u ps M1 Q
theorem cb_conc {r : List V → Hp → VK → Prop} {u : RCp} (hs : SimC K r u) {σ : L2.St} {H : Hp} {Q : VK} (h : concE K H0 (tCB u ta) σ H Q) : L2.tCB r (concA K H0 ta) σ H Q := by
  obtain ⟨σp, M, Qp, t, s, m, u, k⟩ := h
  exact ⟨σp, M, _, t, s, m, u, fun xs H1 ps M1 t1 m1 rs u1 => hs xs H1 ps M1 Q Qp rs m1 u1 fun v H2 p M2 t2 => k v H2 p M2 (t1.trans t2)⟩
theorem pcallB {id : String} {x : Str} {p : Pos} {u : RCp} (hc : CallP X (.builtin id) u) (hg : Gl X x) (hm : X.mg x = none) (hv : bootBuiltins x = some (.builtin id)) (ha : PAp X H0 (e :: es) ta) (hn : x ≠ "__name__" := by decide) (hdb : (x == ("__debug__" : Str)) = false := by decide)
    (he : starEach (e :: es) X.env = (false, eval e X.env) :: starEach es X.env := by rfl) (hpl : (backTo pos (starEach es X.env)).any (·.1) = false := by rfl) : PEp X H0 (.Call (.Name x p) (e :: es) [] pos) (tCB u ta) := by
  obtain ⟨r, h1, h2⟩ := hc
  exact peW (pe_callB h1 hg hm hv ha hn hdb he hpl) fun σ H Q h => cb_conc h2 h
theorem pcallTy {T : String} {x : Str} {p : Pos} {u : RCp} (hc : CallP X (.type T) u) (hg : Gl X x) (hm : X.mg x = none) (hv : bootBuiltins x = some (.type T)) (ha : PAp X H0 (e :: es) ta) (hn : x ≠ "__name__" := by decide) (hdb : (x == ("__debug__" : Str)) = false := by decide)
    (he : starEach (e :: es) X.env = (false, eval e X.env) :: starEach es X.env := by rfl) (hpl : (backTo pos (starEach es X.env)).any (·.1) = false := by rfl) : PEp X H0 (.Call (.Name x p) (e :: es) [] pos) (tCB u ta) := by
  obtain ⟨r, h1, h2⟩ := hc
  exact peW (pe_callTy h1 hg hm hv ha hn hdb he hpl) fun σ H Q h => cb_conc h2 h
theorem pcallF {id : String} {x : Str} {p : Pos} {u : RCp} (hc : CallP X (.builtin id) u) (hg : Gl X x) (hm : X.mg x = some (.builtin id)) (ha : PAp X H0 (e :: es) ta) (hdb : (x == ("__debug__" : Str)) = false := by decide)
    (he : starEach (e :: es) X.env = (false, eval e X.env) :: starEach es X.env := by rfl) (hpl : (backTo pos (starEach es X.env)).any (·.1) = false := by rfl) : PEp X H0 (.Call (.Name x p) (e :: es) [] pos) (tCB u ta) := by
  obtain ⟨r, h1, h2⟩ := hc
  exact peW (pe_callBfun h1 hg hm ha hdb he hpl) fun σ H Q h => cb_conc h2 h

def lenP (K : Kf) : RCp := fun xs M Q => match xs with
  | [.tup l] => Q (.int (l.length : Int)) M
  | [.str z] => z.length ≤ sizeLine ∧ Q (.int (z.length : Int)) M
  | [.ref a] => ∃ l, rdL K M a l ∧ Q (.int (l.length : Int)) M
  | _ => False
theorem cLen : CallP X (.builtin "len") (lenP X.K) := by
  refine ⟨_, call_len, fun xs H ps M Q Qp rs m u k => ?_⟩
  cases rs with
  | nil => exact u.elim
  | cons r rr => cases rr with
    | cons _ _ => cases r <;> exact u.elim
    | nil => cases r with
      | tup h r => exact ⟨_, _, rfl, .inr ⟨_, h, rfl⟩, by rw [← r.length]; exact k _ _ _ _ (Tk.refl _ _) m (.int _) u⟩
      | str z => exact ⟨_, _, rfl, ⟨u.1, rfl⟩, k _ _ _ _ (Tk.refl _ _) m (.int _) u.2⟩
      | ref a =>
        obtain ⟨l, h, q⟩ := u
        obtain ⟨vs, e, r⟩ := h.to m
        exact ⟨_, _, rfl, .inl ⟨_, e, rfl⟩, by rw [← r.length]; exact k _ _ _ _ (Tk.refl _ _) m (.int _) q⟩
      | _ => exact u.elim
def absP : RCp := fun xs M Q => match xs with
  | [.int i] => Q (.int (i.natAbs : Int)) M
  | _ => False
theorem cAbs : CallP X (.builtin "abs") absP := by
  refine ⟨_, call_abs, fun xs H ps M Q Qp rs m u k => ?_⟩
  cases rs with
  | nil => exact u.elim
  | cons r rr => cases rr with
    | cons _ _ => cases r <;> exact u.elim
    | nil => cases r with
      | int i =>
        have e : (if i < 0 then -i else i) = (i.natAbs : Int) := by split <;> omega
        exact ⟨i, rfl, by rw [e]; exact k _ _ _ _ (Tk.refl _ _) m (.int _) u⟩
      | _ => exact u.elim
def intP : RCp := fun xs M Q => match xs with
  | [.int i] => Q (.int i) M
  | [.bl b] => Q (.int (if b then 1 else 0)) M
  | _ => False
theorem cInt : CallP X (.type "int") intP := by
  refine ⟨_, call_int1, fun xs H ps M Q Qp rs m u k => ?_⟩
  cases rs with
  | nil => exact u.elim
  | cons r rr => cases rr with
    | cons _ _ => cases r <;> exact u.elim
    | nil => cases r with
      | int i => exact .inl ⟨i, rfl, k _ _ _ _ (Tk.refl _ _) m (.int _) u⟩
      | bl b => exact .inr ⟨b, rfl, k _ _ _ _ (Tk.refl _ _) m (.int _) u⟩
      | _ => exact u.elim
def gcdP : RCp := fun xs M Q => match xs with
  | [.int a, .int b] => Q (.int ((Nat.gcd a.natAbs b.natAbs : Nat) : Int)) M
  | _ => False
theorem cGcd : CallP X (.builtin "math.gcd") gcdP := by
  refine ⟨_, cr_gcd, fun xs H ps M Q Qp rs m u k => ?_⟩
  cases rs with
  | nil => exact u.elim
  | cons r rr => cases rr with
    | nil => cases r <;> exact u.elim
    | cons r2 rr2 => cases rr2 with
      | cons _ _ => cases r <;> cases r2 <;> exact u.elim
      | nil => cases r with
        | int a => cases r2 with
          | int b => exact ⟨a, b, rfl, k _ _ _ _ (Tk.refl _ _) m (.int _) u⟩
          | _ => exact u.elim
        | _ => cases r2 <;> exact u.elim
/-- tuple(xs), list(xs) of lists and tuples -/
def tupleP (K : Kf) : RCp := fun xs M Q => match xs with
  | [.tup l] => Q (.tup l) M
  | [.ref a] => ∃ l, rdL K M a l ∧ Q (.tup l) M
  | _ => False
theorem cTuple : CallP X (.type "tuple") (tupleP X.K) := by
  refine ⟨_, call_tuple_of, fun xs H ps M Q Qp rs m u k => ?_⟩
  cases rs with
  | nil => exact u.elim
  | cons r rr => cases rr with
    | cons _ _ => cases r <;> exact u.elim
    | nil => cases r with
      | tup h r => exact ⟨_, _, rfl, .inr ⟨h, old_tup m h r u k⟩⟩
      | ref a =>
        obtain ⟨l, h, q⟩ := u
        obtain ⟨vs, e, r⟩ := h.to m
        exact ⟨_, _, rfl, .inl ⟨e, fun p hp => new_tup m hp r q k⟩⟩
      | _ => exact u.elim
def listP (K : Kf) : RCp := fun xs M Q => match xs with
  | [.tup l] => ∀ p, M p = none → Q (.ref p) (updM M p (.lst l))
  | [.ref a] => ∃ l, rdL K M a l ∧ ∀ p, M p = none → Q (.ref p) (updM M p (.lst l))
  | _ => False
theorem cList : CallP X (.type "list") (listP X.K) := by
  refine ⟨_, call_list_of, fun xs H ps M Q Qp rs m u k => ?_⟩
  cases rs with
  | nil => exact u.elim
  | cons r rr => cases rr with
    | cons _ _ => cases r <;> exact u.elim
    | nil => cases r with
      | tup h r => exact ⟨_, _, rfl, .inr h, fun p hp => new_lst m hp r u k⟩
      | ref a =>
        obtain ⟨l, h, q⟩ := u
        obtain ⟨vs, e, r⟩ := h.to m
        exact ⟨_, _, rfl, .inl e, fun p hp => new_lst m hp r q k⟩
      | _ => exact u.elim
/-! isinstance -/
def isiT (t n : String) : Bool := t == n || (t == "bool" && n == "int")
def tyName (K : Kf) (M : PHp) : PV → String → Prop
  | .non, t => t = "NoneType"
  | .bl _, t => t = "bool"
  | .int _, t => t = "int"
  | .str _, t => t = "str"
  | .tup _, t => t = "tuple"
  | .ref a, t => (∃ l, (M a = some (.lst l)) ∧ t = "list") ∨ (∃ l, M a = some (.dK l) ∧ t = "dict")
  | .ty _, _ => False
theorem tyX_of {H : Hp} {M : PHp} (m : RelM K H M) {p : PV} {v : V} {t : String} (r : Rep K H p v) (h : tyName K M p t) : TyX K H v (.type t) := by
  cases r with
  | non => subst h; exact .base .non
  | bl b => subst h; exact .base (.bl b)
  | int b => subst h; exact .base (.int b)
  | str b => subst h; exact .base (.str b)
  | ty b => exact h.elim
  | ref a =>
    rcases h with ⟨l, h, rfl⟩ | ⟨l, h, rfl⟩
    · obtain ⟨vs, e, _⟩ := m a _ h
      exact .base (.lst e)
    · obtain ⟨vs, e, _⟩ := m a _ h
      exact .base (.dK e)
  | tup h1 r =>
    subst h
    rcases h1 with (e | ⟨o, e⟩) | ⟨o, _, _, e, c, _⟩
    · exact .base (.tup e)
    · exact .fTuple e
    · exact .kTuple e c
def isiKit (t n : String) : Bool := (["NoneType", "bool", "int", "str", "tuple", "list", "dict"].contains t) && (["bool", "int", "str", "tuple", "list", "dict"].contains n)
theorem isi_all : (["NoneType", "bool", "int", "str", "tuple", "list", "dict"].all fun t => ["bool", "int", "str", "tuple", "list", "dict"].all fun n => kitB t n == some (isiT t n)) = true := by decide +kernel
theorem kit_isi {t n : String} (h : isiKit t n = true) : kitB t n = some (isiT t n) := by
  unfold isiKit at h
  rw [Bool.and_eq_true] at h
  have h1 := List.all_eq_true.mp isi_all t (List.contains_iff_mem.mp h.1)
  have h2 := List.all_eq_true.mp h1 n (List.contains_iff_mem.mp h.2)
  exact beq_iff_eq.mp h2
theorem br_i1 {t n : String} {A B : Prop} (h : isiT t n = true) (a : A) : br (isiT t n) A B := br_t h a
theorem br_i0 {t n : String} {A B : Prop} (h : isiT t n = false) (a : B) : br (isiT t n) A B := br_f h a
theorem br_n1 {t n : String} {A B : Prop} (h : isiT t n = true) (a : B) : br (!isiT t n) A B := br_f (by rw [h]; rfl) a
theorem br_n0 {t n : String} {A B : Prop} (h : isiT t n = false) (a : A) : br (!isiT t n) A B := br_t (by rw [h]; rfl) a
def isiP (K : Kf) : RCp := fun xs M Q => match xs with
  | [.non, .ty n] => isiKit "NoneType" n = true ∧ Q (.bl (isiT "NoneType" n)) M
  | [.bl _, .ty n] => isiKit "bool" n = true ∧ Q (.bl (isiT "bool" n)) M
  | [.int _, .ty n] => isiKit "int" n = true ∧ Q (.bl (isiT "int" n)) M
  | [.str _, .ty n] => isiKit "str" n = true ∧ Q (.bl (isiT "str" n)) M
  | [.tup _, .ty n] => isiKit "tuple" n = true ∧ Q (.bl (isiT "tuple" n)) M
  | [.ref a, .ty n] => ∃ t, tyName K M (.ref a) t ∧ isiKit t n = true ∧ Q (.bl (isiT t n)) M
  | _ => False
theorem cIsi : CallP X (.builtin "isinstance") (isiP X.K) := by
  refine ⟨_, call_isi, fun xs H ps M Q Qp rs m u k => ?_⟩
  cases rs with
  | nil => exact u.elim
  | cons r rr => cases rr with
    | nil => cases r <;> exact u.elim
    | cons r2 rr2 => cases rr2 with
      | cons _ _ => cases r <;> cases r2 <;> exact u.elim
      | nil =>
        cases r2 with
        | ty n =>
          have go : ∀ (v : V) (p : PV) (t : String), Rep X.K H p v → tyName X.K M p t → isiKit t n = true → Qp (.bl (isiT t n)) M → rIsi X.K [v, .ty n] H Q := fun v p t r h1 h2 q =>
            ⟨v, .ty n, .type t, .type n, _, rfl, .ty n, tyX_of m r h1, kit_ty (kit_isi h2), k _ _ _ _ (Tk.refl _ _) m (.bl _) q⟩
          cases r with
          | non => exact go _ _ _ .non rfl u.1 u.2
          | bl b => exact go _ _ _ (.bl b) rfl u.1 u.2
          | int b => exact go _ _ _ (.int b) rfl u.1 u.2
          | str b => exact go _ _ _ (.str b) rfl u.1 u.2
          | tup a b => exact go _ _ _ (.tup a b) rfl u.1 u.2
          | ref a => obtain ⟨t, h1, h2, h3⟩ := u; exact go _ _ _ (.ref a) h1 h2 h3
          | ty b => exact u.elim
        | _ => cases r <;> exact u.elim

/-! ### subscripts -/
def ixP (K : Kf) : R2p := fun x y M Q => match x, y with
  | .tup l, .int i => ∃ v, atI l i = some v ∧ Q v M
  | .ref a, .int i => ∃ l, rdL K M a l ∧ ∃ v, atI l i = some v ∧ Q v M
  | .str z, .int i => z.length ≤ sizeLine ∧ ∃ c, atI z.cps.toList i = some c ∧ Q (.str ⟨#[c]⟩) M
  | _, _ => False
theorem Reps.at {H : Hp} {ps : List PV} {vs : List V} {i : Int} {p : PV} (r : Reps K H ps vs) (h : atI ps i = some p) : ∃ v, atI vs i = some v ∧ Rep K H p v := by
  unfold atI at h ⊢
  rw [r.length] at h
  cases e : ixN vs.length i with
  | none => rw [e] at h; cases h
  | some j => rw [e] at h; exact r.get h
theorem pix {a b : Expr} {ta tb : TEp} (ha : PEp X H0 a ta) (hb : PEp X H0 b tb) (hs : PlainIx b := by exact fun _ _ => rfl) : PEp X H0 (.Subscript a b pos) (tOp (ixP X.K) ta tb) := by
  refine peW (pe_ix ix_seq ha hb hs) fun σ H Q h => op_conc (r0 := rIx X.K) (fun x y H px py M Q Qp rx ry m u k => ?_) h
  cases rx with
  | tup h r => cases ry with
    | int i =>
      obtain ⟨v, e, q⟩ := u
      obtain ⟨w, e2, rw⟩ := r.at e
      exact .inr (.inl ⟨_, _, i, w, rfl, rfl, h, e2, k _ _ _ _ (Tk.refl _ _) m rw q⟩)
    | _ => exact u.elim
  | ref a => cases ry with
    | int i =>
      obtain ⟨l, h, v, e, q⟩ := u
      obtain ⟨vs, es, r⟩ := h.to m
      obtain ⟨w, e2, rw⟩ := r.at e
      exact .inl ⟨_, _, i, w, rfl, rfl, es, e2, k _ _ _ _ (Tk.refl _ _) m rw q⟩
    | _ => exact u.elim
  | str z => cases ry with
    | int i =>
      obtain ⟨h, c, e, q⟩ := u
      exact .inr (.inr ⟨z, i, c, rfl, rfl, h, e, k _ _ _ _ (Tk.refl _ _) m (.str _) q⟩)
    | _ => exact u.elim
  | _ => exact u.elim

/-! ### statements -/
/-- a stop between two statements -/
@[irreducible] def Stp (u : TSp) (D : PEnds) (σ : PSt) (M : PHp) : Prop := u D σ M
theorem stp {u : TSp} {D : PEnds} {σ : PSt} {M : PHp} (h : u D σ M) : Stp u D σ M := by unfold Stp; exact h
theorem stp_of {u : TSp} {D : PEnds} {σ : PSt} {M : PHp} (h : Stp u D σ M) : u D σ M := by unfold Stp at h; exact h
@[reducible] def tNext : TSp := fun D σ M => D.nx σ M
def nxt (D : PEnds) (f : PSt → PHp → Prop) : PEnds := { nx := f, rt := D.rt, bk := D.bk, ct := D.ct }
@[reducible] def tSeq (t u : TSp) : TSp := fun D σ M => t (nxt D fun σ1 M1 => Stp u D σ1 M1) σ M
variable {st : Stmt} {rest sts : List Stmt} {ts us : TSp}
theorem seq_conc {σ : L2.St} {H : Hp} {D : Ends} (h : concS K H0 (tSeq ts us) D σ H) : L2.tSeq (concS K H0 ts) (concS K H0 us) D σ H := by
  obtain ⟨σp, M, Dp, t, s, m, u, k⟩ := h
  refine ⟨σp, M, _, t, s, m, u, ⟨fun σ1 H1 σp1 M1 t1 s1 m1 q => ?_, k.rt, k.bk, k.ct⟩⟩
  exact ⟨σp1, M1, Dp, t.trans t1, s1, m1, stp_of q, k.mono t1⟩
theorem pssnil : PSsp X H0 [] tNext := pssW pss_nil fun D σ H ⟨σp, M, Dp, t, s, m, u, k⟩ => k.nx _ _ _ _ (Tk.refl _ _) s m u
theorem psscons (h1 : PSp' X H0 st ts) (h2 : PSsp X H0 rest us) : PSsp X H0 (st :: rest) (tSeq ts us) := pssW (pss_cons h1 h2) fun D σ H h => seq_conc h
theorem pssone (h1 : PSp' X H0 st ts) : PSsp X H0 [st] ts := pss_one h1
@[reducible] def tBreak : TSp := fun D σ M => D.bk σ M
@[reducible] def tCont : TSp := fun D σ M => D.ct σ M
theorem pspass : PSp' X H0 (.Pass pos) tNext := psW ps_pass fun D σ H ⟨σp, M, Dp, t, s, m, u, k⟩ => k.nx _ _ _ _ (Tk.refl _ _) s m u
theorem psbreak : PSp' X H0 (.Break pos) tBreak := psW ps_break fun D σ H ⟨σp, M, Dp, t, s, m, u, k⟩ => k.bk _ _ _ _ (Tk.refl _ _) s m u
theorem pscont : PSp' X H0 (.Continue pos) tCont := psW ps_continue fun D σ H ⟨σp, M, Dp, t, s, m, u, k⟩ => k.ct _ _ _ _ (Tk.refl _ _) s m u
theorem psdoc {x j pos'} : PSp' X H0 (.Expr (.Constant (.str x) j pos) pos') tNext := psW ps_doc fun D σ H ⟨σp, M, Dp, t, s, m, u, k⟩ => k.nx _ _ _ _ (Tk.refl _ _) s m u
@[reducible] def tDrop (te : TEp) : TSp := fun D σ M => te σ M fun _ M1 => D.nx σ M1
theorem psexpr (he : PEp X H0 e te) (hs : swapsWith e none pos.line X.env = pure false := by rfl) : PSp' X H0 (.Expr e pos) (tDrop te) :=
  psW (ps_expr he hs) fun D σ H ⟨σp, M, Dp, t, s, m, u, k⟩ => ⟨σp, M, _, t, s, m, u, fun v H1 p M1 t1 m1 r u1 => k.nx _ _ _ _ t1 (s.mono t1) m1 u1⟩
@[reducible] def tRet (te : TEp) : TSp := fun D σ M => te σ M D.rt
theorem psret (he : PEp X H0 e te) : PSp' X H0 (.Return (some e) pos) (tRet te) :=
  psW (ps_ret he) fun D σ H ⟨σp, M, Dp, t, s, m, u, k⟩ => ⟨σp, M, _, t, s, m, u, fun v H1 p M1 t1 m1 r u1 => k.rt _ _ _ _ t1 m1 r u1⟩
@[reducible] def tRetN : TSp := fun D _ M => D.rt .non M
theorem psretN : PSp' X H0 (.Return none pos) tRetN := psW ps_retN fun D σ H ⟨σp, M, Dp, t, s, m, u, k⟩ => k.rt _ _ _ _ (Tk.refl _ _) m .non u
@[reducible] def tIfS (c : TTp) (t u : TSp) : TSp := fun D σ M => c σ M fun b M1 => br b (t D σ M1) (u D σ M1)
theorem psif {c : Expr} {a b : List Stmt} {tc : TTp} (hc : PTp X H0 c tc) (ha : PSsp X H0 a ts) (hb : PSsp X H0 b us) : PSp' X H0 (.If c a b pos) (tIfS tc ts us) :=
  psW (ps_if hc ha hb) fun D σ H ⟨σp, M, Dp, t, s, m, u, k⟩ => ⟨σp, M, _, t, s, m, u, fun c H1 M1 t1 m1 u1 => br_imp u1
    (fun q => ⟨σp, M1, Dp, t.trans t1, s.mono t1, m1, q, k.mono t1⟩) fun q => ⟨σp, M1, Dp, t.trans t1, s.mono t1, m1, q, k.mono t1⟩⟩

/-! ### targets -/
abbrev TGp := PV → PSt → PHp → (PSt → PHp → Prop) → Prop
abbrev TGsp := List PV → PSt → PHp → (PSt → PHp → Prop) → Prop
def concG (K : Kf) (H0 : Hp) (g : TGp) : TG := fun v σ H Q => ∃ p σp M Qp, Tk K H0 H ∧ Rep K H p v ∧ RelS K H σp σ ∧ RelM K H M ∧ g p σp M Qp ∧ ∀ σ' H' σp' M', Tk K H H' → RelS K H' σp' σ' → RelM K H' M' → Qp σp' M' → Q σ' H'
def concGs (K : Kf) (H0 : Hp) (g : TGsp) : TGs := fun vs σ H Q => ∃ ps σp M Qp, Tk K H0 H ∧ Reps K H ps vs ∧ RelS K H σp σ ∧ RelM K H M ∧ g ps σp M Qp ∧ ∀ σ' H' σp' M', Tk K H H' → RelS K H' σp' σ' → RelM K H' M' → Qp σp' M' → Q σ' H'
abbrev PGp (X : Cx) (H0 : Hp) (e : Expr) (g : TGp) : Prop := PG X e (concG X.K H0 g)
abbrev PGsp (X : Cx) (H0 : Hp) (es : List Expr) (g : TGsp) : Prop := PGs X es (concGs X.K H0 g)
theorem pgW {t t' : TG} (h : PG X e t) (w : ∀ v σ H Q, t' v σ H Q → t v σ H Q) : PG X e t' := ⟨fun pins s σ H v u Q I r q => h.run pins s σ H v u Q I r (w _ _ _ _ q)⟩
theorem pgsW {t t' : TGs} (h : PGs X es t) (w : ∀ v σ H Q, t' v σ H Q → t v σ H Q) : PGs X es t' := ⟨fun pins s σ H v u Q I r q => h.run pins s σ H v u Q I r (w _ _ _ _ q)⟩
@[reducible] def gName (i : Nat) : TGp := fun v σ M Q => Q (σ.set i (some v)) M
theorem pgname {i : Nat} {x : Str} (hN : X.N.Nodup) (hi : X.N[i]? = some x := by rfl) (hx : Loc X.env.scope x := by first | exact .inl rfl | exact .inr rfl) (hf : X.fn x = true ∨ X.env.scope.names.lookup x = some .local := by first | exact .inl rfl | exact .inr rfl) : PGp X H0 (.Name x pos) (gName i) :=
  pgW (pg_name hN hi hx hf) fun v σ H Q ⟨p, σp, M, Qp, t, r, s, m, u, k⟩ => k _ _ _ _ (Tk.refl _ _) (s.set r i) m u
@[reducible] def gNil : TGsp := fun vs σ M Q => match vs with | [] => Q σ M | _ => False
@[reducible] def gCons (t : TGp) (u : TGsp) : TGsp := fun vs σ M Q => match vs with | v :: r => t v σ M fun σ' M' => u r σ' M' Q | [] => False
theorem pgsnil : PGsp X H0 [] gNil := pgsW pgs_nil fun v σ H Q ⟨p, σp, M, Qp, t, r, s, m, u, k⟩ => by
  cases r with
  | nil => exact ⟨rfl, k _ _ _ _ (Tk.refl _ _) s m u⟩
  | cons _ _ => exact u.elim
theorem pgscons {g : TGp} {gs : TGsp} (h1 : PGp X H0 e g) (h2 : PGsp X H0 es gs) (hs : (assignEach (e :: es) X.env).map (·.2) = assign e X.env :: (assignEach es X.env).map (·.2) := by rfl) : PGsp X H0 (e :: es) (gCons g gs) :=
  pgsW (pgs_cons h1 h2 hs) fun v σ H Q ⟨p, σp, M, Qp, t, r, s, m, u, k⟩ => by
    cases r with
    | nil => exact u.elim
    | cons r rr => exact ⟨_, _, rfl, _, σp, M, _, t, r, s, m, u, fun σ1 H1 σp1 M1 t1 s1 m1 u1 => ⟨_, σp1, M1, Qp, t.trans t1, rr.mono t1, s1, m1, u1, fun σ2 H2 σp2 M2 t2 => k σ2 H2 σp2 M2 (t1.trans t2)⟩⟩
@[reducible] def gTup (n : Nat) (g : TGsp) : TGp := fun v σ M Q => match v with | .tup l => l.length = n ∧ g l σ M Q | _ => False
theorem pgtup {gs : TGsp} {j : Nat} {n : Nat} (hc : X.calm = true) (h : PGsp X H0 es gs) (hn : (assignEach es X.env).length = n := by rfl) (hst : (assignEach es X.env).findIdx? (·.1) = none := by rfl) : PGp X H0 (.Tuple es j pos) (gTup n gs) :=
  pgW (pg_tup hc h hn hst) fun v σ H Q ⟨p, σp, M, Qp, t, r, s, m, u, k⟩ => by
    cases r with
    | tup h r => exact ⟨_, _, rfl, h, by rw [← r.length]; exact u.1, _, σp, M, Qp, t, r, s, m, u.2, k⟩
    | _ => exact u.elim
/-- xs[i] = v -/
abbrev TSetp := PV → PV → PV → PHp → (PHp → Prop) → Prop
@[reducible] def gSub (to ti : TEp) (t : TSetp) : TGp := fun v σ M Q => to σ M fun o M1 => ti σ M1 fun i M2 => t o i v M2 fun M3 => Q σ M3
def setP : TSetp := fun o i v M Q => match o, i with
  | .ref a, .int k => ∃ xs j, M a = some (.lst xs) ∧ ixN xs.length k = some j ∧ Q (updM M a (.lst (xs.set j v)))
  | _, _ => False
theorem Tk_set {H : Hp} {M : PHp} {a : Addr} {l l' : List PV} {vs vs' : List V} (m : RelM K H M) (e : H a = some (.lst vs)) (r : Reps K H l' vs') : Tk K H (upd H a (.lst vs')) ∧ RelM K (upd H a (.lst vs')) (updM M a (.lst l')) :=
  ⟨.lst e, m.put (m := .lst l') (.lst e) ⟨vs', upd_same, r.mono (.lst e)⟩⟩
theorem pgsub {o i : Expr} {to ti : TEp} (ho : PEp X H0 o to) (hi : PEp X H0 i ti)
    (ha : ∀ z, assign (.Subscript o i pos) X.env z = (do
      let zo ← holding [z] (eval o X.env); let zi ← holding [z, zo] (eval i X.env); standAt pos
      holding [z, zo, zi] (setItem zo zi z); release [z, zo, zi] []) := by intro _; rfl) : PGp X H0 (.Subscript o i pos) (gSub to ti setP) :=
  pgW (pg_sub ho hi set_list ha) fun v σ H Q ⟨p, σp, M, Qp, t, r, s, m, u, k⟩ =>
    ⟨σp, M, _, t, s, m, u, fun o H1 po M1 t1 m1 r1 u1 => ⟨σp, M1, _, t.trans t1, s.mono t1, m1, u1, fun i H2 pi M2 t2 m2 r2 u2 => by
      have ro := r1.mono t2
      cases ro with
      | ref a => cases r2 with
        | int j =>
          obtain ⟨xs, n, h1, h2, q⟩ := u2
          obtain ⟨vs, e, rv⟩ := m2 _ _ h1
          obtain ⟨tk, mm⟩ := Tk_set (l := xs) m2 e (rv.set (r.mono (t1.trans t2)) n)
          exact ⟨_, _, _, _, rfl, rfl, e, by rw [← rv.length]; exact h2, k _ _ _ _ ((t1.trans t2).trans tk) (s.mono ((t1.trans t2).trans tk)) mm q⟩
        | _ => exact u2.elim
      | _ => exact u2.elim⟩⟩
@[reducible] def tAsg (te : TEp) (g : TGp) : TSp := fun D σ M => te σ M fun x M1 => g x σ M1 D.nx
theorem psasg {tg : Expr} {g : TGp} (he : PEp X H0 e te) (hg : PGp X H0 tg g) (hs : swapsWithSole [tg] e pos.line X.env = pure false := by rfl) (hw : swappedStores [tg] e X.env = pure none := by rfl) (h1 : (assignEach [tg] X.env).map (·.2) = [assign tg X.env] := by rfl) : PSp' X H0 (.Assign [tg] e pos) (tAsg te g) :=
  psW (ps_asg he hg hs hw h1) fun D σ H ⟨σp, M, Dp, t, s, m, u, k⟩ => ⟨σp, M, _, t, s, m, u, fun v H1 p M1 t1 m1 r u1 => ⟨p, σp, M1, _, t.trans t1, r, s.mono t1, m1, u1, fun σ2 H2 σp2 M2 t2 => k.nx σ2 H2 σp2 M2 (t1.trans t2)⟩⟩
theorem psset (i : Nat) {x : Str} {pos' : Pos} (hN : X.N.Nodup) (he : PEp X H0 e te) (hi : X.N[i]? = some x := by rfl) (hx : Loc X.env.scope x := by first | exact .inl rfl | exact .inr rfl) (hs : swapsWith e (some (.Name x pos')) pos.line X.env = pure false := by rfl)
    (hf : X.fn x = true ∨ X.env.scope.names.lookup x = some .local := by first | exact .inl rfl | exact .inr rfl) : PSp' X H0 (.Assign [.Name x pos'] e pos) (tAsg te (gName i)) :=
  psW (ps_set hN hi hx he hs hf) fun D σ H ⟨σp, M, Dp, t, s, m, u, k⟩ => ⟨σp, M, _, t, s, m, u, fun v H1 p M1 t1 m1 r u1 => k.nx _ _ _ _ t1 ((s.mono t1).set r i) m1 u1⟩
/-- a, b = e1, e2 -/
@[reducible] def tPar (i j : Nat) (ta : TAp) : TSp := fun D σ M => ta σ M fun vs M1 => match vs with | [v, w] => D.nx ((σ.set i (some v)).set j (some w)) M1 | _ => False
theorem pspar (i j : Nat) {x y : Str} {a b : Expr} {px py pt : Pos} {kt k2 pt2} (hc : X.calm = true) (hN : X.N.Nodup) (ha : PAp X H0 [a, b] ta) (hi : X.N[i]? = some x := by rfl) (hj : X.N[j]? = some y := by rfl) (hij : i ≠ j := by decide)
    (p : ∀ t, PA X [a, b] t → PS X (.Assign [.Tuple [.Name x px, .Name y py] kt pt] (.Tuple [a, b] k2 pt2) pos) (L2.tPar i j t)) : PSp' X H0 (.Assign [.Tuple [.Name x px, .Name y py] kt pt] (.Tuple [a, b] k2 pt2) pos) (tPar i j ta) :=
  psW (p _ ha) fun D σ H ⟨σp, M, Dp, t, s, m, u, k⟩ => ⟨σp, M, _, t, s, m, u, fun vs H1 ps M1 t1 m1 rs u1 => by
    cases rs with
    | nil => exact u1.elim
    | cons r rr => cases rr with
      | nil => exact u1.elim
      | cons r2 rr2 => cases rr2 with
        | nil => exact ⟨_, _, rfl, k.nx _ _ _ _ t1 (((s.mono t1).set r i).set r2 j) m1 u1⟩
        | cons _ _ => exact u1.elim⟩
/-- x op= e -/
@[reducible] def tAug (i : Nat) (te : TEp) (r : R2p) : TSp := fun D σ M => match σ[i]? with | some (some x) => te σ M fun y M1 => r x y M1 fun z M2 => D.nx (σ.set i (some z)) M2 | _ => False
theorem psaug (i : Nat) {x : Str} {op : Operator} {pos' : Pos} {r : R2p} (hN : X.N.Nodup) (ho : OpP X (inplaceOp op) r) (he : PEp X H0 e te) (hi : X.N[i]? = some x := by rfl) (hx : Loc X.env.scope x := by first | exact .inl rfl | exact .inr rfl)
    (hf : X.fn x = true ∨ X.env.scope.names.lookup x = some .local := by first | exact .inl rfl | exact .inr rfl) : PSp' X H0 (.AugAssign (.Name x pos') op e pos) (tAug i te r) := by
  obtain ⟨r0, h1, h2⟩ := ho
  refine psW (ps_aug (ti := r0) hN hi hx he h1 hf) fun D σ H ⟨σp, M, Dp, t, s, m, u, k⟩ => ?_
  unfold tAug at u
  split at u
  · next p e =>
    obtain ⟨v, e1, rv⟩ := s.get e
    exact ⟨v, e1, σp, M, _, t, s, m, u, fun y H1 py M1 t1 m1 ry u1 => h2 v y H1 p py M1 _ _ (rv.mono t1) ry m1 u1 fun z H2 pz M2 t2 m2 rz q => k.nx _ _ _ _ (t1.trans t2) ((s.mono (t1.trans t2)).set rz i) m2 q⟩
  · exact u.elim
def iaddP : R2p := fun x y M Q => match x, y with
  | .int i, .int j => Q (.int (i + j)) M
  | .str a, .str b => a.length + b.length ≤ sizeLine ∧ Q (.str (a ++ b)) M
  | _, _ => False
theorem iopAdd : OpP X (inplaceOp .Add) iaddP := by
  refine ⟨_, iop_add.or iop_add_str, fun x y H px py M Q Qp rx ry m u k => ?_⟩
  cases rx with
  | int i => cases ry with
    | int j => exact .inl ⟨i, j, rfl, rfl, k _ _ _ _ (Tk.refl _ _) m (.int _) u⟩
    | _ => exact u.elim
  | str i => cases ry with
    | str j => exact .inr ⟨i, j, rfl, rfl, u.1, k _ _ _ _ (Tk.refl _ _) m (.str _) u.2⟩
    | _ => exact u.elim
  | _ => exact u.elim
theorem iopSub : OpP X (inplaceOp .Sub) subP := by
  refine ⟨_, iop_sub, fun x y H px py M Q Qp rx ry m u k => ?_⟩
  cases rx with
  | int i => cases ry with
    | int j => exact ⟨i, j, rfl, rfl, k _ _ _ _ (Tk.refl _ _) m (.int _) u⟩
    | _ => exact u.elim
  | _ => exact u.elim
def imulP : R2p := fun x y M Q => match x, y with
  | .int i, .int j => IntMulOk i j ∧ Q (.int (i * j)) M
  | _, _ => False
theorem iop_mulG : OpR X (inplaceOp .Mult) (rI IntMulOk fun i j => .int (i * j)) := opI fun _ _ _ _ _ _ _ hc q => PyProof.Rows.imul_int q hc
theorem iopMul : OpP X (inplaceOp .Mult) imulP := by
  refine ⟨_, iop_mulG, fun x y H px py M Q Qp rx ry m u k => ?_⟩
  cases rx with
  | int i => cases ry with
    | int j => exact ⟨i, j, rfl, rfl, u.1, k _ _ _ _ (Tk.refl _ _) m (.int _) u.2⟩
    | _ => exact u.elim
  | _ => exact u.elim
end
end PL

set_option Elab.async false
set_option linter.all false
set_option maxRecDepth 100000
set_option maxHeartbeats 2000000
/-! PL4: loops, comprehensions, defs and their calls. -/
namespace PL
open PySem L2
section
variable {X : Cx} {H0 : Hp} {pos : Pos} {K : Kf}
/-! ### what is walked -/
structure ItR (K : Kf) (H1 : Hp) (J : It) (items : List PV) (keep : PHp → Prop) : Prop where
  go : ∀ i H M, Tk K H1 H → RelM K H M → keep M → i < items.length → J.go i H
  yld : ∀ i H M x H', Tk K H1 H → RelM K H M → keep M → i < items.length → J.yld i H x H' → ∃ p, items[i]? = some p ∧ Rep K H' p x ∧ Tk K H H' ∧ ∀ M, RelM K H M → RelM K H' M
  stop : ∀ H M, Tk K H1 H → RelM K H M → keep M → J.stop items.length H
abbrev TIp := PSt → PHp → (List PV → (PHp → Prop) → PHp → Prop) → Prop
def concI (K : Kf) (H0 : Hp) (w : TIp) : TI := fun σ H R => ∃ σp M Rp, Tk K H0 H ∧ RelS K H σp σ ∧ RelM K H M ∧ w σp M Rp ∧ ∀ J H' items keep M', Tk K H H' → RelM K H' M' → ItR K H' J items keep → Rp items keep M' → R J H'
abbrev PIp' (X : Cx) (H0 : Hp) (tg iter : Expr) (w : TIp) : Prop := PI X tg iter (concI X.K H0 w)
theorem piW {tg iter : Expr} {t t' : TI} (h : PI X tg iter t) (w : ∀ σ H R, t' σ H R → t σ H R) : PI X tg iter t' := ⟨fun pins s σ H R I q => h.run pins s σ H R I (w _ _ _ q)⟩
theorem itr_list {H1 : Hp} {a : Addr} {l : List PV} : ItR K H1 (Itl K a) l (fun M => rdL K M a l) where
  go := fun i H M t m k hi => by
    obtain ⟨vs, e, r⟩ := k.to m
    have h2 : i < vs.length := by rw [← r.length]; exact hi
    exact ⟨vs, vs[i], e, by simp [h2]⟩
  yld := fun i H M x H' t m k hi y => by
    obtain ⟨e, y⟩ := y
    subst e
    obtain ⟨vs, e, r⟩ := k.to m
    obtain ⟨v, h2, r2⟩ := r.get (List.getElem?_eq_getElem hi)
    have := y vs e
    rw [h2] at this
    cases this
    exact ⟨_, List.getElem?_eq_getElem hi, r2, Tk.refl _ _, fun _ h => h⟩
  stop := fun H M t m k => by
    obtain ⟨vs, e, r⟩ := k.to m
    exact ⟨vs, e, by rw [r.length]; exact Nat.le_refl _⟩
theorem itr_tup {H1 : Hp} {a : Addr} {l : List PV} {vs : List V} (h : SqT K H1 a vs) (r0 : Reps K H1 l vs) : ItR K H1 (Itt K a) l (fun _ => True) where
  go := fun i H M t m k hi => by
    have h2 : i < vs.length := by rw [← r0.length]; exact hi
    exact ⟨vs, vs[i], t _ _ h, by simp [h2]⟩
  yld := fun i H M x H' t m k hi y => by
    obtain ⟨e, y⟩ := y
    subst e
    obtain ⟨v, h2, r2⟩ := (r0.mono t).get (List.getElem?_eq_getElem hi)
    have := y vs (t _ _ h)
    rw [h2] at this
    cases this
    exact ⟨_, List.getElem?_eq_getElem hi, r2, Tk.refl _ _, fun _ h => h⟩
  stop := fun H M t m k => ⟨vs, t _ _ h, by rw [r0.length]; exact Nat.le_refl _⟩
def signs (z : Str) : List PV := z.cps.toList.map fun c => PV.str ⟨#[c]⟩
theorem itr_str {H1 : Hp} {z : Str} : ItR K H1 (Its z) (signs z) (fun _ => True) where
  go := fun i H M t m k hi => by
    unfold signs at hi
    rw [List.length_map] at hi
    exact hi
  yld := fun i H M x H' t m k hi y => by
    obtain ⟨e, c, h1, h2⟩ := y
    subst e; subst h2
    refine ⟨.str ⟨#[c]⟩, ?_, .str _, Tk.refl _ _, fun _ h => h⟩
    unfold signs
    rw [List.getElem?_map, Array.getElem?_toList, h1]
    rfl
  stop := fun H M t m k => by
    show z.cps.size ≤ (signs z).length
    unfold signs
    rw [List.length_map]
    exact Nat.le_refl _
/-- a value that is walked -/
def IterR (X : Cx) (tg : Expr) (wi : V → Hp → (It → Hp → Prop) → Prop) : Prop := ∀ (pins : List (Addr × Obj)) (s : Shared) (σ : L2.St) (H : Hp) (R : It → Hp → Prop) (x : V) (v : Value), Inv X pins σ H s → RelV x v → wi x H R →
  wpAny (model X.prog X.w) X.A (pyIter v) (PIE X pins σ tg R) X.xe s
theorem ir_list {tg : Expr} : IterR X tg (fun x H R => ∃ a, x = .ref a ∧ (∃ xs, SqL X.K H a xs) ∧ R (Itl X.K a) H) := by
  rintro pins t σ G R y v I rel ⟨a, rfl, ⟨_, there⟩, q⟩
  cases rel
  obtain ⟨_, _, plain, _⟩ := I.list there
  exact wpAny_pyIter_list plain.isList (pi_one (tk := t.toks) I _ (turn_list a _) ⟨_, Heap.get?_push_size _ rfl, rfl, rfl⟩ q)
theorem ir_tup {tg : Expr} : IterR X tg (fun x H R => ∃ a, x = .ref a ∧ (∃ xs, SqT X.K H a xs) ∧ R (Itt X.K a) H) := by
  rintro pins t σ G R y v I rel ⟨a, rfl, ⟨_, there⟩, q⟩
  cases rel
  obtain ⟨_, _, plain, _⟩ := I.tuple there
  exact wpAny_pyIter_tuple plain (pi_one (tk := t.toks) I _ (turn_tuple a _) ⟨_, Heap.get?_push_size _ rfl, rfl, rfl⟩ q)
theorem ir_str {tg : Expr} : IterR X tg (fun v H R => ∃ x, v = .str x ∧ R (Its x) H) := by
  rintro pins t σ G R y v I rel ⟨z, rfl, q⟩
  obtain ⟨tk, rfl⟩ := rel
  by_cases small : z.cps.all (· < 128) = true
  · exact wpAny_pyIter_ascii small (pi_one (tk := t.toks) I _ (turn_str _ z tk _ (.inl rfl)) ⟨_, Heap.get?_push_size _ rfl, rfl, rfl⟩ q)
  · exact wpAny_pyIter_wide (Bool.not_eq_true _ ▸ small) (pi_one (tk := t.toks) I _ (turn_str _ z tk _ (.inr rfl)) ⟨_, Heap.get?_push_size _ rfl, rfl, rfl⟩ q)
/-- over a list, a tuple, a text -/
@[reducible] def iSeq (K : Kf) (te : TEp) : TIp := fun σ M R => te σ M fun x M1 => match x with
  | .tup l => R l (fun _ => True) M1
  | .ref a => ∃ l, rdL K M1 a l ∧ R l (fun M => rdL K M a l) M1
  | .str z => R (signs z) (fun _ => True) M1
  | _ => False
theorem piseq {tg e : Expr} {te : TEp} (h : PEp X H0 e te) : PIp' X H0 tg e (iSeq X.K te) := by
  refine ⟨fun pins s σ H R I q => ?_⟩
  obtain ⟨σp, M, Rp, t, s0, m, u, k⟩ := q
  refine thn (h.run pins s σ H (fun x H1 => ∃ px M1, Tk X.K H H1 ∧ RelM X.K H1 M1 ∧ Rep X.K H1 px x ∧ (match px with
      | .tup l => Rp l (fun _ => True) M1
      | .ref a => ∃ l, rdL X.K M1 a l ∧ Rp l (fun M => rdL X.K M a l) M1
      | .str z => Rp (signs z) (fun _ => True) M1
      | _ => False)) I ⟨σp, M, _, t, s0, m, u, fun x H1 px M1 t1 m1 rx u1 => ⟨px, M1, t1, m1, rx, u1⟩⟩) fun v s1 z => ?_
  obtain ⟨x, H1, I1, rv, px, M1, t1, m1, rx, u1⟩ := z
  cases rx with
  | tup h r => exact ir_tup pins s1 σ H1 R _ v I1 rv ⟨_, rfl, ⟨_, h⟩, k _ _ _ _ _ t1 m1 (itr_tup h r) u1⟩
  | ref a =>
    obtain ⟨l, hl, q⟩ := u1
    obtain ⟨vs, e, r⟩ := hl.to m1
    exact ir_list pins s1 σ H1 R _ v I1 rv ⟨_, rfl, ⟨_, e⟩, k _ _ _ _ _ t1 m1 itr_list q⟩
  | str z => exact ir_str pins s1 σ H1 R _ v I1 rv ⟨_, rfl, k _ _ _ _ _ t1 m1 itr_str u1⟩
  | _ => exact u1.elim
/-- range(n), range(a, b) -/
def rng (lo : Int) (n : Nat) : List PV := (List.range n).map fun (i : Nat) => PV.int (lo + (i : Int))
theorem rng_len (lo : Int) (n : Nat) : (rng lo n).length = n := by unfold rng; simp
theorem rng_get {lo : Int} {n i : Nat} {p : PV} (h : (rng lo n)[i]? = some p) : i < n ∧ p = .int (lo + (i : Int)) := by
  unfold rng at h
  rw [List.getElem?_map] at h
  by_cases hi : i < n
  · rw [List.getElem?_range hi] at h
    exact ⟨hi, (Option.some.inj h).symm⟩
  · rw [List.getElem?_eq_none (by simp; omega)] at h
    cases h
theorem itr_rng {H1 : Hp} {lo : Int} {n : Nat} : ItR K H1 (Itr lo n) (rng lo n) (fun _ => True) where
  go := fun i H M t m k hi => by rw [rng_len] at hi; exact hi
  yld := fun i H M x H' t m k hi y => by
    rw [rng_len] at hi
    obtain ⟨e, y⟩ := y
    subst e; subst y
    exact ⟨.int (lo + (i : Int)), by unfold rng; rw [List.getElem?_map, List.getElem?_range hi]; rfl, .int _, Tk.refl _ _, fun _ h => h⟩
  stop := fun H M t m k => by rw [rng_len]; exact Nat.le_refl _
@[reducible] def iRng1 (ta : TAp) : TIp := fun σ M R => ta σ M fun vs M1 => match vs with
  | [.int j] => (-(2 ^ 62) ≤ j ∧ j < 2 ^ 62) ∧ R (rng 0 j.toNat) (fun _ => True) M1
  | _ => False
@[reducible] def iRng2 (ta : TAp) : TIp := fun σ M R => ta σ M fun vs M1 => match vs with
  | [.int i, .int j] => (-(2 ^ 62) ≤ i ∧ i < 2 ^ 62 ∧ -(2 ^ 62) ≤ j ∧ j < 2 ^ 62) ∧ R (rng i (j - i).toNat) (fun _ => True) M1
  | _ => False
theorem pirng1 {tg a : Expr} {ta : TAp} {p : Pos} (hg : Gl X "range") (hm : X.mg "range" = none) (ha : PAp X H0 [a] ta) (hs : starEach [a] X.env = [(false, eval a X.env)] := by rfl) : PIp' X H0 tg (.Call (.Name "range" p) [a] [] pos) (iRng1 ta) :=
  piW (pi_range1 hg hm ha hs) fun σ H R ⟨σp, M, Rp, t, s, m, u, k⟩ => ⟨σp, M, _, t, s, m, u, fun vs H1 ps M1 t1 m1 rs u1 => by
    cases rs with
    | nil => exact u1.elim
    | cons r rr => cases rr with
      | nil => cases r with
        | int j => exact ⟨j, rfl, u1.1.1, u1.1.2, k _ _ _ _ _ t1 m1 itr_rng u1.2⟩
        | _ => exact u1.elim
      | cons r2 rr2 => cases r <;> exact u1.elim⟩
theorem pirng2 {tg a b : Expr} {ta : TAp} {p : Pos} (hg : Gl X "range") (hm : X.mg "range" = none) (ha : PAp X H0 [a, b] ta) (hs : starEach [a, b] X.env = [(false, eval a X.env), (false, eval b X.env)] := by rfl) (hs2 : starEach [b] X.env = [(false, eval b X.env)] := by rfl) : PIp' X H0 tg (.Call (.Name "range" p) [a, b] [] pos) (iRng2 ta) :=
  piW (pi_range2 hg hm ha hs hs2) fun σ H R ⟨σp, M, Rp, t, s, m, u, k⟩ => ⟨σp, M, _, t, s, m, u, fun vs H1 ps M1 t1 m1 rs u1 => by
    cases rs with
    | nil => exact u1.elim
    | cons r rr => cases rr with
      | nil => cases r <;> exact u1.elim
      | cons r2 rr2 => cases rr2 with
        | nil => cases r with
          | int i => cases r2 with
            | int j => exact ⟨i, j, rfl, u1.1, k _ _ _ _ _ t1 m1 itr_rng u1.2⟩
            | _ => exact u1.elim
          | _ => cases r2 <;> exact u1.elim
        | cons _ _ => cases r <;> cases r2 <;> exact u1.elim⟩

/-! ### for, while -/
/-- some slots forgotten, some objects let go -/
def Nx (P : PSt → PHp → Prop) : PSt → PHp → Prop := fun σ M => ∃ σ0 M0, SubS σ0 σ ∧ Sub M0 M ∧ P σ0 M0
theorem Nx.of {P : PSt → PHp → Prop} {σ : PSt} {M : PHp} (h : P σ M) : Nx P σ M := ⟨σ, M, .refl _, .refl _, h⟩
@[reducible] def tFor (wi : TIp) (g : TGp) (tb : TSp) : TSp := fun D σ M => wi σ M fun items keep M1 => ∃ I : Nat → PSt → PHp → Prop, Nx (I 0) σ M1 ∧ (∀ i σ M, I i σ M → keep M) ∧
  (∀ i x σ M, items[i]? = some x → I i σ M → g x σ M fun σ2 M2 => tb { nx := Nx (I (i + 1)), ct := Nx (I (i + 1)), bk := D.nx, rt := D.rt } σ2 M2) ∧ ∀ σ M, I items.length σ M → D.nx σ M
theorem psfor {iter tg : Expr} {body : List Stmt} {wi : TIp} {g : TGp} {tb : TSp} (hp : PassesOwn (model X.prog X.w) X.A X.env X.xe) (hc : X.calm = true) (hi : PIp' X H0 tg iter wi) (hg : PGp X H0 tg g) (hb : PSsp X H0 body tb) (hs : ∀ x, foldedSetIterable iter X.env x = pure x := by intro _; rfl) :
    PSp' X H0 (.For tg iter body [] pos) (tFor wi g tb) := by
  refine psW (ps_for hp hc hi hg hb hs) fun D σ H ⟨σp, M, Dp, t, s, m, u, k⟩ => ⟨σp, M, _, t, s, m, u, fun J H1 items keep M1 t1 m1 it u1 => ?_⟩
  obtain ⟨I, h0, hk, hs, hd⟩ := u1
  obtain ⟨σ00, M00, ss0, sm0, h0⟩ := h0
  refine ⟨fun i n σ' H' => n = items.length - i ∧ i ≤ items.length ∧ ∃ σq Mq, Tk X.K H1 H' ∧ RelS X.K H' σq σ' ∧ RelM X.K H' Mq ∧ I i σq Mq, ⟨_, rfl, Nat.zero_le _, σ00, M00, Tk.refl _ _, (s.mono t1).sub ss0, m1.sub sm0, h0⟩, ?_⟩
  rintro i n σ' H' ⟨rfl, hi, σq, Mq, tq, sq, mq, hI⟩
  by_cases hlt : i < items.length
  · refine .inr ⟨it.go i H' Mq tq mq (hk _ _ _ hI) hlt, fun σ2 H2 => i + 1 ≤ items.length ∧ ∃ σq Mq, Tk X.K H1 H2 ∧ RelS X.K H2 σq σ2 ∧ RelM X.K H2 Mq ∧ I (i + 1) σq Mq, fun σ2 H2 h => ⟨items.length - (i + 1), by omega, rfl, h.1, h.2⟩, fun x H2 y => ?_⟩
    obtain ⟨p, e1, r1, t2, mm⟩ := it.yld i H' Mq x H2 tq mq (hk _ _ _ hI) hlt y
    refine ⟨p, σq, Mq, _, t.trans (t1.trans (tq.trans t2)), r1, sq.mono t2, mm _ mq, hs i p σq Mq e1 hI, fun σ3 H3 σp3 M3 t3 s3 m3 u3 => ?_⟩
    refine ⟨σp3, M3, _, t.trans (t1.trans (tq.trans (t2.trans t3))), s3, m3, u3, ⟨fun σ4 H4 σp4 M4 t4 s4 m4 u4 => ?_, fun v H4 p4 M4 t4 => k.rt v H4 p4 M4 (t1.trans (tq.trans (t2.trans (t3.trans t4)))), fun σ4 H4 p4 M4 t4 => k.nx σ4 H4 p4 M4 (t1.trans (tq.trans (t2.trans (t3.trans t4)))), fun σ4 H4 σp4 M4 t4 s4 m4 u4 => ?_⟩⟩
    all_goals
      obtain ⟨σ0, M0, ss, sm, hI2⟩ := u4
      exact ⟨hlt, σ0, M0, tq.trans (t2.trans (t3.trans t4)), s4.sub ss, m4.sub sm, hI2⟩
  · have e : i = items.length := by omega
    subst e
    exact .inl ⟨it.stop H' Mq tq mq (hk _ _ _ hI), k.nx _ _ _ _ (t1.trans tq) sq mq (hd _ _ hI)⟩
@[reducible] def tWhile (c : TTp) (tb : TSp) : TSp := fun D σ M => ∃ W : Nat → PSt → PHp → Prop, (∃ n, Nx (W n) σ M) ∧ ∀ n σ M, W n σ M →
  c σ M fun b M1 => br b (tb { nx := fun σ' M' => ∃ n', n' < n ∧ Nx (W n') σ' M', ct := fun σ' M' => ∃ n', n' < n ∧ Nx (W n') σ' M', bk := D.nx, rt := D.rt } σ M1) (D.nx σ M1)
theorem pswhile {c : Expr} {body : List Stmt} {tc : TTp} {tb : TSp} (hp : PassesOwn (model X.prog X.w) X.A X.env X.xe) (hc : PTp X H0 c tc) (hb : PSsp X H0 body tb) : PSp' X H0 (.While c body [] pos) (tWhile tc tb) := by
  refine psW (ps_while hp hc hb) fun D σ H ⟨σp, M, Dp, t, s, m, u, k⟩ => ?_
  obtain ⟨W, ⟨n0, h0⟩, hs⟩ := u
  obtain ⟨σ00, M00, ss0, sm0, h0⟩ := h0
  refine ⟨fun n σ' H' => ∃ σq Mq, Tk X.K H H' ∧ RelS X.K H' σq σ' ∧ RelM X.K H' Mq ∧ W n σq Mq, ⟨n0, σ00, M00, Tk.refl _ _, s.sub ss0, m.sub sm0, h0⟩, ?_⟩
  rintro n σ' H' ⟨σq, Mq, tq, sq, mq, hW⟩
  refine ⟨σq, Mq, _, t.trans tq, sq, mq, hs n σq Mq hW, fun b H2 M2 t2 m2 u2 => br_imp u2 (fun q => ?_) fun q => k.nx _ _ _ _ (tq.trans t2) (sq.mono t2) m2 q⟩
  refine ⟨fun σ3 H3 => ∃ n', n' < n ∧ ∃ σq Mq, Tk X.K H H3 ∧ RelS X.K H3 σq σ3 ∧ RelM X.K H3 Mq ∧ W n' σq Mq, fun σ3 H3 h => h, σq, M2, _, t.trans (tq.trans t2), sq.mono t2, m2, q, ⟨fun σ4 H4 σp4 M4 t4 s4 m4 u4 => ?_, fun v H4 p4 M4 t4 => k.rt v H4 p4 M4 (tq.trans (t2.trans t4)), fun σ4 H4 p4 M4 t4 => k.nx σ4 H4 p4 M4 (tq.trans (t2.trans t4)), fun σ4 H4 σp4 M4 t4 s4 m4 u4 => ?_⟩⟩
  all_goals
    obtain ⟨n', hn, σ0, M0, ss, sm, h2⟩ := u4
    exact ⟨n', hn, σ0, M0, tq.trans (t2.trans t4), s4.sub ss, m4.sub sm, h2⟩

/-! ### defs and their calls -/
abbrev PSpec := List PV → PHp → PVK → PXK → Prop
def concF (K : Kf) (psp : PSpec) : Sp := fun vs H Q E => ∃ ps M Qp Ep, Reps K H ps vs ∧ RelM K H M ∧ psp ps M Qp Ep ∧ (∀ v H' p M', Tk K H H' → RelM K H' M' → Rep K H' p v → Qp p M' → Q v H') ∧ ∀ cls d H' M', Tk K H H' → RelM K H' M' → Ep cls d M' → E cls d H'
/-- a def that may be called -/
structure Callee (P : Program) (w : World) (K : Kf) (mg : Str → Option Value) (base : Heap) (k : Nat) (x : Str) (ps : List Str) (psp : PSpec) : Prop where
  ex : ∃ f fd, FnOk P w K mg base CX0 k f fd ps (concF K psp) ∧ mg x = some (.ref f) ∧ PySem.W.keepIn K (.ref f) = true ∧ Binds K fd ps []
theorem Callee.mono {P : Program} {w : World} {mg : Str → Option Value} {base : Heap} {j k : Nat} {x : Str} {ps : List Str} {psp : PSpec} (h : Callee P w K mg base j x ps psp) (l : j ≤ k) : Callee P w K mg base k x ps psp := by
  obtain ⟨f, fd, F, r⟩ := h.ex
  exact ⟨⟨f, fd, F.mono l, r⟩⟩
theorem Callee.imp {P : Program} {w : World} {mg : Str → Option Value} {base : Heap} {k : Nat} {x : Str} {ps : List Str} {psp psp' : PSpec} (h : Callee P w K mg base k x ps psp) (l : ∀ vs M Q E, psp' vs M Q E → psp vs M Q E) : Callee P w K mg base k x ps psp' := by
  obtain ⟨f, fd, F, r⟩ := h.ex
  exact ⟨⟨f, fd, F.imp fun vs H Q E ⟨ps, M, Qp, Ep, h1, h2, h3, h4⟩ => ⟨ps, M, Qp, Ep, h1, h2, l _ _ _ _ h3, h4⟩, r⟩⟩
@[reducible] def tCall (psp : PSpec) (ta : TAp) : TEp := fun σ M Q => ta σ M fun ps M1 => psp ps M1 Q fun _ _ _ => False
variable {e : Expr} {es : List Expr} {te : TEp} {ta : TAp}
theorem call_conc {psp : PSpec} {σ : L2.St} {H : Hp} {Q : VK} (h : concE K H0 (tCall psp ta) σ H Q) : L2.tCall (concF K psp) [] E0 (concA K H0 ta) σ H Q := by
  obtain ⟨σp, M, Qp, t, s, m, u, k⟩ := h
  refine ⟨σp, M, _, t, s, m, u, fun vs H1 ps M1 t1 m1 rs u1 => ?_⟩
  show concF K psp (vs ++ []) H1 Q E0
  rw [List.append_nil]
  exact ⟨ps, M1, Qp, _, rs, m1, u1, fun v H2 p M2 t2 => k v H2 p M2 (t1.trans t2), fun _ _ _ _ _ _ z => z⟩
theorem pcall {k : Nat} {x : Str} {ps : List Str} {psp : PSpec} {p : Pos} (C : Callee X.prog X.w X.K X.mg X.base k x ps psp) (hr : Room k X.A) (ha : PAp X H0 (e :: es) ta) (hg : Gl X x := by rfl) (hd : (x == ("__debug__" : Str)) = false := by decide)
    (he : starEach (e :: es) X.env = (false, eval e X.env) :: starEach es X.env := by rfl) (hpl : (backTo pos (starEach es X.env)).any (·.1) = false := by rfl) : PEp X H0 (.Call (.Name x p) (e :: es) [] pos) (tCall psp ta) := by
  obtain ⟨f, fd, F, hm, hk, hb⟩ := C.ex
  exact peW (pe_call F hr hg hm hk hb .nil pass0 ha hd he hpl) fun σ H Q h => call_conc h
theorem pcall0 {k : Nat} {x : Str} {psp : PSpec} {p : Pos} (C : Callee X.prog X.w X.K X.mg X.base k x [] psp) (hr : Room k X.A) (hg : Gl X x := by rfl) (hd : (x == ("__debug__" : Str)) = false := by decide) : PEp X H0 (.Call (.Name x p) [] [] pos) (tCall psp tNil) := by
  obtain ⟨f, fd, F, hm, hk, hb⟩ := C.ex
  refine peW (pe_call0 F hr hg hm hk hb .nil pass0 hd) fun σ H Q ⟨σp, M, Qp, t, s, m, u, k⟩ => ?_
  exact ⟨[], M, Qp, _, .nil, m, u, k, fun _ _ _ _ _ _ z => z⟩
/-- where a def of the text stands -/
structure Here (K : Kf) (mg : Str → Option Value) (x : Str) (st : Stmt) (ps : List Str) : Prop where
  ex : ∃ f fd, Fun K x x st f fd ∧ mg x = some (.ref f) ∧ Binds K fd ps []
def startP (N : List Str) (vs : List PV) : PSt := vs.map some ++ List.replicate (N.length - vs.length) none
theorem startP_rel {H : Hp} : ∀ {ps : List PV} {vs : List V}, Reps K H ps vs → ∀ N : List Str, RelS K H (startP N ps) (L2.start N vs) := by
  intro ps vs r N
  unfold startP L2.start
  rw [r.length]
  have tail : ∀ n : Nat, RelS K H (List.replicate n none) (List.replicate n none) := fun n => by
    induction n with
    | zero => exact .nil
    | succ n ih => exact .no ih
  generalize N.length - vs.length = n
  induction r using Reps.rec (motive_1 := fun _ _ _ => True) with
  | nil => exact tail n
  | cons a b _ ih => exact .yes a ih
  | _ => trivial
def ends (Q : PVK) : PEnds := { nx := fun _ M' => ∃ M0, Sub M0 M' ∧ Q .non M0, rt := fun v M' => ∃ M0, Sub M0 M' ∧ Q v M0 }
abbrev defCx (P : Program) (w : World) (K : Kf) (mg : Str → Option Value) (base : Heap) (N : List Str) (x : Str) (st : Stmt) (f : Addr) (cdv : Value) (A : Around) (outer : List Env) (s : Shared) (H : Hp) (E : XK) : Cx :=
  (cxOf CX0 P w K mg base N x (defScope st) f cdv A outer s H E).nox
theorem ok_of {P : Program} {w : World} {mg : Str → Option Value} {base : Heap} {k : Nat} {x : Str} {st : Stmt} {N ps : List Str} {psp : PSpec} (h : Here K mg x st ps) (S : FnScope N ps (defScope st)) (len : ∀ vs M Q E, psp vs M Q E → vs.length = ps.length)
    (body : ∀ f cdv A outer s H E, Room k (defCx P w K mg base N x st f cdv A outer s H E).A → ∃ t, PSsp (defCx P w K mg base N x st f cdv A outer s H E) H (defBody st) t ∧ ∀ vs M Q Ep, psp vs M Q Ep → t (ends Q) (startP N vs) M) :
    Callee P w K mg base (k + 1) x ps psp := by
  obtain ⟨f, fd, F, hm, hb⟩ := h.ex
  refine ⟨⟨f, fd, F.ok S (fun vs H Q E h => ?_) (fun cdv A outer s H vs Q E hr h => ?_), hm, F.kp, hb⟩⟩
  · obtain ⟨qs, M, Qp, Ep, r, m, u, _⟩ := h
    rw [← r.length]
    exact len _ _ _ _ u
  · obtain ⟨qs, M, Qp, Ep, r, m, u, k1, k2⟩ := h
    obtain ⟨t, d, b⟩ := body f cdv A outer s H E hr
    refine ⟨_, d, startP N qs, M, ends Qp, Tk.refl _ _, startP_rel r N, m, b _ _ _ _ u, ⟨fun σ' H' σp' M' t1 s1 m1 q => ?_, fun v H' p M' t1 m1 r1 q => ?_, fun _ _ _ _ _ _ _ z => z.elim, fun _ _ _ _ _ _ _ z => z.elim⟩⟩
    · obtain ⟨M0, sb, q⟩ := q
      exact k1 _ _ _ _ t1 (m1.sub sb) .non q
    · obtain ⟨M0, sb, q⟩ := q
      exact k1 _ _ _ _ t1 (m1.sub sb) r1 q
end
end PL

set_option Elab.async false
set_option linter.all false
set_option maxRecDepth 100000
set_option maxHeartbeats 2000000
/-! PL5: comprehensions, max, methods of lists. -/
namespace PL
open PySem L2
section
variable {X : Cx} {H0 : Hp} {pos : Pos} {K : Kf}
/-! ### comprehensions -/
def wipeP (σ : PSt) : List Nat → PSt
  | [] => σ
  | i :: r => (wipeP σ r).set i none
theorem RelS.wipe1 {H : Hp} : ∀ {σ : PSt} {τ : L2.St} (i : Nat), RelS K H σ τ → RelS K H (σ.set i none) (τ.set i none)
  | _, _, _, .nil => .nil
  | _, _, 0, .no t => .no t
  | _, _, 0, .yes _ t => .no t
  | _, _, i + 1, .no t => .no (RelS.wipe1 i t)
  | _, _, i + 1, .yes q t => .yes q (RelS.wipe1 i t)
theorem RelS.wipe {H : Hp} {σ : PSt} {τ : L2.St} (s : RelS K H σ τ) : ∀ vs : List Nat, RelS K H (wipeP σ vs) (L2.wipe τ vs)
  | [] => s
  | i :: r => (RelS.wipe s r).wipe1 i
/-- the tests of a comprehension -/
abbrev PTsp (X : Cx) (H0 : Hp) (ifs : List Expr) (u : TTp) : Prop := PTs X ifs (concT X.K H0 u)
@[reducible] def tYes : TTp := fun _ M Q => Q true M
theorem ptsnil : PTsp X H0 [] tYes := ⟨fun pins s σ H Q I ⟨_, M, _, _, _, m, u, k⟩ => pts_nil.run pins s σ H Q I (k true H M (Tk.refl _ _) m u)⟩
theorem ptsone {c : Expr} {t : TTp} (h : PTp X H0 c t) : PTsp X H0 [c] t := pts_one h
/-- what a turn gives: Dl the list that grows -/
@[reducible] def LcTurn (vs : List Nat) (σ0 : PSt) (tt : TTp) (te : TEp) (Dl : Addr) (acc : List PV) (I : List PV → PHp → Prop) : PSt → PHp → Prop := fun σ2 M2 => tt σ2 M2 fun b M3 => br b (te σ2 M3 fun y M4 => M4 Dl = some (.lst acc) ∧ acc.length < sizeLine ∧ ∃ M5, Sub M5 (updM M4 Dl (.lst (acc ++ [y]))) ∧ I (acc ++ [y]) M5) (∃ M5, Sub M5 M3 ∧ I acc M5)
/-- I: by the turn, the list so far and the heap; the list stands at Dl -/
@[reducible] def tLc1 (wi : TIp) (j : Nat) (tt : TTp) (te : TEp) (vs : List Nat) : TEp := fun σ M Q => wi σ M fun items keep M1 => ∀ Dl, M1 Dl = none → ∃ I : Nat → List PV → PHp → Prop, (∃ M5, Sub M5 (updM M1 Dl (.lst [])) ∧ I 0 [] M5) ∧
  (∀ i acc M, I i acc M → keep M) ∧ (∀ i x acc M, items[i]? = some x → I i acc M → LcTurn vs σ tt te Dl acc (I (i + 1)) ((wipeP σ vs).set j (some x)) M) ∧ ∀ acc M, I items.length acc M → Q (.ref Dl) M
theorem wipe_set (σ : L2.St) (j : Nat) (x : Option V) : ∀ vs : List Nat, j ∈ vs → L2.wipe (σ.set j x) vs = L2.wipe σ vs
  | [], h => by cases h
  | i :: r, h => by
    show (L2.wipe (σ.set j x) r).set i none = (L2.wipe σ r).set i none
    by_cases hj : j ∈ r
    · rw [wipe_set σ j x r hj]
    · have e : j = i := by rcases List.mem_cons.mp h with h | h; exact h; exact absurd h hj
      subst e
      have key : ∀ (r : List Nat) (σ : L2.St), j ∉ r → L2.wipe (σ.set j x) r = (L2.wipe σ r).set j x := by
        intro r
        induction r with
        | nil => intro σ _; rfl
        | cons a r ih =>
          intro σ hn
          have n1 : j ≠ a := fun q => hn (q ▸ List.mem_cons_self)
          have n2 : j ∉ r := fun q => hn (List.mem_cons_of_mem _ q)
          show (L2.wipe (σ.set j x) r).set a none = ((L2.wipe σ r).set a none).set j x
          rw [ih σ n2, List.set_comm _ _ n1]
      rw [key r σ hj, List.set_set]
theorem wipe_wipe (σ : L2.St) (vs : List Nat) : L2.wipe (L2.wipe σ vs) vs = L2.wipe σ vs := by
  apply List.ext_getElem?
  intro i
  by_cases hi : i ∈ vs
  · have h : ∀ (τ : L2.St), τ.length = σ.length → (L2.wipe τ vs)[i]? = if i < σ.length then some none else none := by
      intro τ hτ
      have key : ∀ (r : List Nat), i ∈ r → (L2.wipe τ r)[i]? = if i < τ.length then some none else none := by
        intro r
        induction r with
        | nil => intro h; cases h
        | cons a r ih =>
          intro h
          show ((L2.wipe τ r).set a none)[i]? = _
          rw [List.getElem?_set, L2.wipe_length]
          by_cases e : a = i
          · subst e; rw [if_pos rfl]
          · rw [if_neg e]
            exact ih (by rcases List.mem_cons.mp h with q | q; exact absurd q.symm e; exact q)
      rw [key vs hi, hτ]
    rw [h _ (L2.wipe_length σ vs), h σ rfl]
  · rw [L2.wipe_out hi]
/-- one name for the target -/
theorem lc1_conc {j : Nat} {vs : List Nat} {wi : TIp} {tt : TTp} {te : TEp} (hj : j ∈ vs) {σ : L2.St} {H : Hp} {Q : VK} (h : concE K H0 (tLc1 wi j tt te vs) σ H Q) :
    L2.tLc (concI K H0 wi) (L2.gName j) (concT K H0 tt) (concE K H0 te) vs σ H Q := by
  obtain ⟨σp, M, Qp, t, s, m, u, k⟩ := h
  refine ⟨σp, M, _, t, s, m, u, fun J H1 items keep M1 t1 m1 it u1 Dl hD => ?_⟩
  obtain ⟨I, ⟨M50, sb0, h0⟩, hk, hs, hd⟩ := u1 Dl (m1.fresh hD)
  have tn : Tk K H1 (upd H1 Dl (.lst [])) := .new hD
  have mn : RelM K (upd H1 Dl (.lst [])) (updM M1 Dl (.lst [])) := m1.put (m := .lst []) tn ⟨[], upd_same, .nil⟩
  refine ⟨fun i n H' => n = items.length - i ∧ i ≤ items.length ∧ ∃ acc Mq, Tk K H1 H' ∧ RelM K H' Mq ∧ I i acc Mq, ⟨_, rfl, Nat.zero_le _, [], M50, tn, mn.sub sb0, h0⟩, ?_⟩
  rintro i n H' ⟨rfl, hi, acc, Mq, tq, mq, hI⟩
  by_cases hlt : i < items.length
  · refine .inr ⟨it.go i H' Mq tq mq (hk _ _ _ hI) hlt, fun H2 => i + 1 ≤ items.length ∧ ∃ acc Mq, Tk K H1 H2 ∧ RelM K H2 Mq ∧ I (i + 1) acc Mq, fun H2 h => ⟨items.length - (i + 1), by omega, rfl, h.1, h.2⟩, fun x H2 y => ?_⟩
    obtain ⟨p, e1, r1, t2, mm⟩ := it.yld i H' Mq x H2 tq mq (hk _ _ _ hI) hlt y
    have hw : L2.wipe ((L2.wipe σ vs).set j (some x)) vs = L2.wipe σ vs := by
      rw [wipe_set _ _ _ _ hj, wipe_wipe]
    refine ⟨hw, (wipeP σp vs).set j (some p), Mq, _, t.trans (t1.trans (tq.trans t2)), ((s.mono (t1.trans (tq.trans t2))).wipe _).set r1 j, mm _ mq, hs i p acc Mq e1 hI, fun b H3 M3 t3 m3 u3 => br_imp u3 (fun q => ?_) fun q => ?_⟩
    · refine ⟨_, M3, _, t.trans (t1.trans (tq.trans (t2.trans t3))), ((s.mono (t1.trans (tq.trans (t2.trans t3)))).wipe _).set (r1.mono t3) j, m3, q, fun v H4 p4 M4 t4 m4 r4 q4 => ?_⟩
      obtain ⟨q1, q2, M5, sb, q5⟩ := q4
      obtain ⟨vs4, e4, r5⟩ := m4 _ _ q1
      obtain ⟨tk, m6⟩ := Tk_set (l := acc) m4 e4 (r5.snoc r4)
      exact ⟨vs4, e4, by rw [← r5.length]; exact q2, hlt, _, M5, tq.trans (t2.trans (t3.trans (t4.trans tk))), m6.sub sb, q5⟩
    · obtain ⟨M5, sb, q5⟩ := q
      exact ⟨hlt, _, M5, tq.trans (t2.trans t3), m3.sub sb, q5⟩
  · have e : i = items.length := by omega
    subst e
    exact .inl ⟨it.stop H' Mq tq mq (hk _ _ _ hI), k _ _ _ _ (t1.trans tq) mq (.ref Dl) (hd _ _ hI)⟩
section
variable {elt iter : Expr} {x : Str} {xpos : Pos} {ifs : List Expr} {scope : Scope} {own : List (Str × Nat)} {wi : TIp} {tt : TTp} {te : TEp}
theorem plc1 (j : Nat) (hc : X.calm = true) (hN : X.N.Nodup) (hi : PIp' X H0 (.Name x xpos) iter wi) (ok : BlkOk X.N X.env.scope scope own) (hj : j ∈ own.map (·.2))
    (hg : ∀ (s : Shared) (H : Hp) (C : Addr) (cl : List (Str × Addr)) (fp : List Addr), PG (X.blk s H scope (compEnvC scope cl C X.env) fp) (.Name x xpos) (L2.gName j))
    (ht : ∀ (s : Shared) (H : Hp) (C : Addr) (cl : List (Str × Addr)) (fp : List Addr), PTsp (X.blk s H scope (compEnvC scope cl C X.env) fp) H0 ifs tt)
    (he : ∀ (s : Shared) (H : Hp) (C : Addr) (cl : List (Str × Addr)) (fp : List Addr), PEp (X.blk s H scope (compEnvC scope cl C X.env) fp) H0 elt te) (hs : ∀ x, foldedSetIterable iter X.env x = pure x := by intro _; rfl) :
    PEp X H0 (.ListComp elt [⟨.Name x xpos, iter, ifs, 0⟩] scope pos) (tLc1 wi j tt te (own.map (·.2))) :=
  peW (pe_lc (tt := concT X.K H0 tt) (te := concE X.K H0 te) hc hN hi ok hg ht he hs) fun σ H Q h => lc1_conc hj h
/-- y = [..] on one line -/
theorem pssetlc1 (i j : Nat) {y : Str} {py spos : Pos} (hc : X.calm = true) (hN : X.N.Nodup) (hyl : X.env.scope.names.lookup y = some .local)
    (hsw : swapsWith (.ListComp elt [⟨.Name x xpos, iter, ifs, 0⟩] scope pos) (some (.Name y py)) spos.line X.env = pure true) (hi : PIp' X H0 (.Name x xpos) iter wi) (ok : BlkOk X.N X.env.scope scope own) (hj : j ∈ own.map (·.2))
    (hg : ∀ (s : Shared) (H : Hp) (C : Addr) (cl : List (Str × Addr)) (fp : List Addr), PG (X.blk s H scope (compEnvC scope cl C X.env) fp) (.Name x xpos) (L2.gName j))
    (ht : ∀ (s : Shared) (H : Hp) (C : Addr) (cl : List (Str × Addr)) (fp : List Addr), PTsp (X.blk s H scope (compEnvC scope cl C X.env) fp) H0 ifs tt)
    (he : ∀ (s : Shared) (H : Hp) (C : Addr) (cl : List (Str × Addr)) (fp : List Addr), PEp (X.blk s H scope (compEnvC scope cl C X.env) fp) H0 elt te) (hy : X.N[i]? = some y := by rfl) (hs : ∀ x, foldedSetIterable iter X.env x = pure x := by intro _; rfl) :
    PSp' X H0 (.Assign [.Name y py] (.ListComp elt [⟨.Name x xpos, iter, ifs, 0⟩] scope pos) spos) (tAsg (tLc1 wi j tt te (own.map (·.2))) (gName i)) :=
  psW (ps_setLc (tt := concT X.K H0 tt) (te := concE X.K H0 te) hc hN hy hyl hsw hi ok hg ht he hs) fun D σ H ⟨σp, M, Dp, t, s, m, u, k⟩ =>
    lc1_conc hj ⟨σp, M, _, t, s, m, u, fun v H1 p M1 t1 m1 r u1 => k.nx _ _ _ _ t1 ((s.mono t1).set r i) m1 u1⟩
end

end
end PL

set_option Elab.async false
set_option linter.all false
set_option maxRecDepth 100000
set_option maxHeartbeats 2000000
/-! PL6: max, min, sum; methods of lists; the end of a law. -/
namespace PLraw
open PySem PySem.Spec PySem.Calls PyProof.Rows
section
variable {prog : Program} {w : World} {A : Around} {E : Value → Shared → Prop} {s : Shared} {l : Addr} {us : List Value} {ms : List Int} {Q : Value → Shared → Prop}
/-- a tuple of whole numbers, as numbers with their tokens -/
theorem as_items (hl : s.heap.IsTuple l us.toArray) (hi : IntsAre us ms) : ∃ xs : Array (Int × Tok), s.heap.IsTuple l (intItems xs) ∧ numsOf (intItems xs).toList = ms := by
  obtain ⟨xs, q⟩ := hi.allInts.items
  exact ⟨xs, q ▸ hl, q ▸ hi.numsOf⟩
theorem sum_tup (hh : A.handled = none) (hl : s.heap.IsTuple l us.toArray) (hi : IntsAre us ms)
    (k : ∀ g tk t, (∀ b o, s.heap.get? b = some o → g.get? b = some o) → Q (.int ms.sum t) { s with heap := g, toks := tk }) : wpAny (model prog w) A (call (.builtin "sum") [.ref l]) Q E s := by
  obtain ⟨xs, ht, hn⟩ := as_items hl hi
  rw [nums_intItems] at hn
  exact PySem.W.ktm_sumG hh ht fun g tk t old => by
    have z := k g tk t old
    rwa [preSum_eq, List.take_of_length_le (by simp), hn]
/-- what an iterator over a tuple starts from -/
theorem starts {xs : Array Value} (ht : s.heap.IsTuple l xs) : l ≠ s.heap.objs.size ∧ ∀ (o : Obj) (b : Addr), b ∈ [s.heap.objs.size, l] → b < (s.heap.push o).objs.size := by
  obtain ⟨u, hu, _⟩ := ht
  have h := Heap.lt_size hu
  refine ⟨Nat.ne_of_lt h, fun o b hb => ?_⟩
  rw [Heap.size_push]
  have two : b = s.heap.objs.size ∨ b = l := by simpa using hb
  rcases two with e | e <;> subst e
  · exact Nat.lt_succ_self _
  · exact Nat.lt_succ_of_lt h
theorem old_of {g : Heap} {o : Obj} (hk : ∀ b u, b ∉ [s.heap.objs.size] → (s.heap.push o).get? b = some u → g.get? b = some u) : ∀ b u, s.heap.get? b = some u → g.get? b = some u := fun b u e =>
  hk b u (fun hb => by
    have h := Heap.lt_size e
    rw [List.mem_singleton.mp hb] at h
    exact Nat.lt_irrefl _ h) (Heap.get?_push_of_some _ e)
theorem num_mem {xs : Array (Int × Tok)} (i : Nat) (hi : i < xs.size) : numAt xs i ∈ xs.toList.map (·.1) := by
  rw [numAt_eq]
  refine PySem.getD_mem ?_
  rw [List.length_map, Array.length_toList]; exact hi
theorem num_all {xs : Array (Int × Tok)} {P : Int → Prop} (h : ∀ i, i < xs.size → P (numAt xs i)) : ∀ a ∈ xs.toList.map (·.1), P a := fun a ha => by
  obtain ⟨i, hi, rfl⟩ := mem_getD ha
  rw [List.length_map, Array.length_toList] at hi
  rw [← numAt_eq]; exact h i hi
theorem max_tup (hh : A.handled = none) (hl : s.heap.IsTuple l us.toArray) (hi : IntsAre us ms) (ne : 0 < ms.length)
    (k : ∀ g tk m t, (∀ b o, s.heap.get? b = some o → g.get? b = some o) → m ∈ ms → (∀ a, a ∈ ms → a ≤ m) → Q (.int m t) { s with heap := g, toks := tk }) : wpAny (model prog w) A (call (.builtin "max") [.ref l]) Q E s := by
  obtain ⟨xs, ht, hn⟩ := as_items hl hi
  rw [nums_intItems] at hn
  have many : 0 < xs.size := by rw [← hn] at ne; simpa using ne
  obtain ⟨apart, st⟩ := starts ht
  refine call_max_walk (wpAny_pyIter_tuple ht ⟨s.heap.objs.size, _, _, _, _, _, _, rfl, Walks.tuple (A := A.in1) hh _ l apart (intItems xs), ⟨⟨_, Heap.get?_push_size _ rfl, rfl, rfl⟩, ht.push _⟩, fun b hb => ?_, ?_, CmpOf.ints_gt (numAt xs) fun _ _ => intItems_at, fun v g tk hv old => ?_⟩)
  · exact st _ b hb
  · simpa [intItems] using many
  · obtain ⟨t, rfl⟩ := intItems_at (show (intItems xs)[argBest (fun i j => decide (numAt xs i > numAt xs j)) (xs.size - 1)]? = some v by simpa [intItems] using hv)
    have best := argBest_gt (numAt xs) (xs.size - 1)
    refine k g tk _ t (old_of old) (hn ▸ num_mem _ (by omega)) fun a ha => ?_
    rw [← hn] at ha
    exact num_all (P := fun a => a ≤ _) (fun i hi => best.2 i (by omega)) a ha
theorem min_tup (hh : A.handled = none) (hl : s.heap.IsTuple l us.toArray) (hi : IntsAre us ms) (ne : 0 < ms.length)
    (k : ∀ g tk m t, (∀ b o, s.heap.get? b = some o → g.get? b = some o) → m ∈ ms → (∀ a, a ∈ ms → m ≤ a) → Q (.int m t) { s with heap := g, toks := tk }) : wpAny (model prog w) A (call (.builtin "min") [.ref l]) Q E s := by
  obtain ⟨xs, ht, hn⟩ := as_items hl hi
  rw [nums_intItems] at hn
  have many : 0 < xs.size := by rw [← hn] at ne; simpa using ne
  obtain ⟨apart, st⟩ := starts ht
  refine call_min_walk (wpAny_pyIter_tuple ht ⟨s.heap.objs.size, _, _, _, _, _, _, rfl, Walks.tuple (A := A.in1) hh _ l apart (intItems xs), ⟨⟨_, Heap.get?_push_size _ rfl, rfl, rfl⟩, ht.push _⟩, fun b hb => ?_, ?_, CmpOf.ints_lt (numAt xs) fun _ _ => intItems_at, fun v g tk hv old => ?_⟩)
  · exact st _ b hb
  · simpa [intItems] using many
  · obtain ⟨t, rfl⟩ := intItems_at (show (intItems xs)[argBest (fun i j => decide (numAt xs i < numAt xs j)) (xs.size - 1)]? = some v by simpa [intItems] using hv)
    have best := argBest_lt (numAt xs) (xs.size - 1)
    refine k g tk _ t (old_of old) (hn ▸ num_mem _ (by omega)) fun a ha => ?_
    rw [← hn] at ha
    exact num_all (P := fun a => _ ≤ a) (fun i hi => best.2 i (by omega)) a ha
end
end PLraw
namespace PL
open PySem L2
section
variable {X : Cx} {H0 : Hp} {pos : Pos} {K : Kf}
def rSumT (K : Kf) : List V → Hp → VK → Prop := fun vs H Q => ∃ (a : Addr) (ns : List Int), vs = [V.ref a] ∧ SqT K H a (ns.map V.int) ∧ Q (.int ns.sum) H
theorem cr_sumT (hc : X.calm = true) : CallR X (.builtin "sum") (rSumT X.K) := by
  rintro pins s σ H vs us Q I r ⟨a, ns, rfl, here, q⟩
  obtain ⟨_, rv, tup, _⟩ := I.tuple here
  exact Vals.ref1 r ▸ PLraw.sum_tup (I.ok.hd hc) tup rv.ints fun _ _ _ old => ⟨.int _, H, I.kept old, ⟨_, rfl⟩, q⟩
def rMaxT (K : Kf) : List V → Hp → VK → Prop := fun vs H Q => ∃ (a : Addr) (ns : List Int), vs = [V.ref a] ∧ SqT K H a (ns.map V.int) ∧ 0 < ns.length ∧ ∀ m, m ∈ ns → (∀ y, y ∈ ns → y ≤ m) → Q (.int m) H
theorem cr_maxT (hc : X.calm = true) : CallR X (.builtin "max") (rMaxT X.K) := by
  rintro pins s σ H vs us Q I r ⟨a, ns, rfl, here, many, q⟩
  obtain ⟨_, rv, tup, _⟩ := I.tuple here
  exact Vals.ref1 r ▸ PLraw.max_tup (I.ok.hd hc) tup rv.ints many fun _ _ m _ old is most => ⟨.int _, H, I.kept old, ⟨_, rfl⟩, q m is most⟩
def rMinT (K : Kf) : List V → Hp → VK → Prop := fun vs H Q => ∃ (a : Addr) (ns : List Int), vs = [V.ref a] ∧ SqT K H a (ns.map V.int) ∧ 0 < ns.length ∧ ∀ m, m ∈ ns → (∀ y, y ∈ ns → m ≤ y) → Q (.int m) H
theorem cr_minT (hc : X.calm = true) : CallR X (.builtin "min") (rMinT X.K) := by
  rintro pins s σ H vs us Q I r ⟨a, ns, rfl, here, many, q⟩
  obtain ⟨_, rv, tup, _⟩ := I.tuple here
  exact Vals.ref1 r ▸ PLraw.min_tup (I.ok.hd hc) tup rv.ints many fun _ _ m _ old is most => ⟨.int _, H, I.kept old, ⟨_, rfl⟩, q m is most⟩
/-- of one list or tuple -/
def onInts (K : Kf) (c : List Int → (Int → Prop) → Prop) : RCp := fun xs M Q => match xs with
  | [.ref a] => ∃ ns : List Int, rdL K M a (ns.map PV.int) ∧ c ns fun m => Q (.int m) M
  | [.tup l] => ∃ ns : List Int, l = ns.map PV.int ∧ c ns fun m => Q (.int m) M
  | _ => False
theorem onInts_sim {c : List Int → (Int → Prop) → Prop} (hm : ∀ ns P P', (∀ m, P m → P' m) → c ns P → c ns P') : SimC K (fun xs H Q => (∃ (a : Addr) (ns : List Int), xs = [V.ref a] ∧ SqL K H a (ns.map V.int) ∧ c ns fun m => Q (.int m) H) ∨ ∃ (a : Addr) (ns : List Int), xs = [V.ref a] ∧ SqT K H a (ns.map V.int) ∧ c ns fun m => Q (.int m) H) (onInts K c) := by
  intro xs H ps M Q Qp rs m u k
  cases rs with
  | nil => exact u.elim
  | cons r rr => cases rr with
    | cons _ _ => cases r <;> exact u.elim
    | nil => cases r with
      | tup h r =>
        obtain ⟨ns, rfl, q⟩ := u
        have e := r.ints
        subst e
        exact .inr ⟨_, ns, rfl, h, hm _ _ _ (fun z q => k _ _ _ _ (Tk.refl _ _) m (.int z) q) q⟩
      | ref a =>
        obtain ⟨ns, h, q⟩ := u
        obtain ⟨vs, e, r⟩ := h.to m
        have e2 := r.ints
        subst e2
        exact .inl ⟨_, ns, rfl, e, hm _ _ _ (fun z q => k _ _ _ _ (Tk.refl _ _) m (.int z) q) q⟩
      | _ => exact u.elim
def sumC (ns : List Int) (P : Int → Prop) : Prop := P ns.sum
def maxC (ns : List Int) (P : Int → Prop) : Prop := 0 < ns.length ∧ ∀ m, m ∈ ns → (∀ y, y ∈ ns → y ≤ m) → P m
def minC (ns : List Int) (P : Int → Prop) : Prop := 0 < ns.length ∧ ∀ m, m ∈ ns → (∀ y, y ∈ ns → m ≤ y) → P m
abbrev sumP (K : Kf) : RCp := onInts K sumC
abbrev maxP (K : Kf) : RCp := onInts K maxC
abbrev minP (K : Kf) : RCp := onInts K minC
theorem cSum (hc : X.calm = true) : CallP X (.builtin "sum") (sumP X.K) := ⟨_, (cr_sum hc).or (cr_sumT hc), fun xs H ps M Q Qp rs m u k => (onInts_sim (c := sumC) (fun _ _ _ h q => h _ q)) xs H ps M Q Qp rs m u k⟩
theorem cMax (hc : X.calm = true) : CallP X (.builtin "max") (maxP X.K) := ⟨_, (cr_max hc).or (cr_maxT hc), fun xs H ps M Q Qp rs m u k => (onInts_sim (c := maxC) (fun _ _ _ h q => ⟨q.1, fun z a b => h _ (q.2 z a b)⟩)) xs H ps M Q Qp rs m u k⟩
theorem cMin (hc : X.calm = true) : CallP X (.builtin "min") (minP X.K) := ⟨_, (cr_min hc).or (cr_minT hc), fun xs H ps M Q Qp rs m u k => (onInts_sim (c := minC) (fun _ _ _ h q => ⟨q.1, fun z a b => h _ (q.2 z a b)⟩)) xs H ps M Q Qp rs m u k⟩
/-- max(a, b), min(a, b) -/
def twoI (g : Int → Int → Prop) : List PV → Prop
  | [.int i, .int j] => g i j
  | _ => False
def max2P : RCp := fun xs M Q => twoI (fun i j => Q (.int (if j > i then j else i)) M) xs
def min2P : RCp := fun xs M Q => twoI (fun i j => Q (.int (if j < i then j else i)) M) xs
theorem two_ints {xs : List V} {H : Hp} {ps : List PV} (rs : Reps K H ps xs) {A : Prop} (g : Int → Int → Prop) (u : twoI g ps) (h : ∀ i j, xs = [.int i, .int j] → g i j → A) : A := by
  cases rs with
  | nil => exact u.elim
  | cons r rr => cases rr with
    | nil => cases r <;> exact u.elim
    | cons r2 rr2 => cases rr2 with
      | cons _ _ => cases r <;> cases r2 <;> exact u.elim
      | nil => cases r with
        | int a => cases r2 with
          | int b => exact h a b rfl u
          | _ => exact u.elim
        | _ => cases r2 <;> exact u.elim
theorem cMax2 (hc : X.calm = true) : CallP X (.builtin "max") max2P := ⟨_, call_max2 hc, fun xs H ps M Q Qp rs m u k => two_ints rs (fun i j => Qp (.int (if j > i then j else i)) M) u fun i j e q => ⟨i, j, e, k _ _ _ _ (Tk.refl _ _) m (.int _) q⟩⟩
theorem cMin2 (hc : X.calm = true) : CallP X (.builtin "min") min2P := ⟨_, call_min2 hc, fun xs H ps M Q Qp rs m u k => two_ints rs (fun i j => Qp (.int (if j < i then j else i)) M) u fun i j e q => ⟨i, j, e, k _ _ _ _ (Tk.refl _ _) m (.int _) q⟩⟩

/-! ### methods of built-in types -/
abbrev RMp := PV → List PV → PHp → PVK → Prop
def tyP (K : Kf) (T : String) (x : PV) (M : PHp) : Prop := match x with
  | .str _ => T = "str"
  | .ref a => (T = "list" ∧ ∃ l, rdL K M a l) ∨ (T = "dict" ∧ ∃ kvs, M a = some (.dK kvs))
  | _ => False
theorem tyP_to {H : Hp} {M : PHp} (m : RelM K H M) {T : String} {p : PV} {v : V} (r : Rep K H p v) (h : tyP K T p M) : tyV K T v H := by
  cases r with
  | str z => exact h
  | ref a =>
    rcases h with ⟨h1, l, h2⟩ | ⟨h1, kvs, h2⟩
    · obtain ⟨vs, e, _⟩ := h2.to m
      exact .inl ⟨h1, vs, e⟩
    · obtain ⟨vs, e, _⟩ := m a _ h2
      exact .inr (.inr (.inl ⟨h1, .inl ⟨vs, e⟩⟩))
  | _ => exact h.elim
def MtP (X : Cx) (id : String) (u : RMp) : Prop := ∃ r, MtR X id r ∧ ∀ x xs H px ps M (Q : VK) (Qp : PVK), Rep X.K H px x → Reps X.K H ps xs → RelM X.K H M → u px ps M Qp → Kont X.K H Q Qp → r x xs H Q
@[reducible] def tBM (K : Kf) (T : String) (u : RMp) (to : TEp) (ta : TAp) : TEp := fun σ M Q => to σ M fun x M1 => tyP K T x M1 ∧ ta σ M1 fun ps M2 => u x ps M2 Q
@[reducible] def tBM0 (K : Kf) (T : String) (u : RMp) (to : TEp) : TEp := fun σ M Q => to σ M fun x M1 => tyP K T x M1 ∧ u x [] M1 Q
variable {o e : Expr} {es : List Expr} {to : TEp} {ta : TAp} {name : Str} {apos cpos : Pos} {T id : String} {u : RMp}
theorem pbm0 (pa : PlainAttrs T) (slot : Slot T name id) (hty : typeOf (.builtin id) = pure (.type "method_descriptor")) (hm : MtP X id u) (ho : PEp X H0 o to)
    (h1 : attributeBase o name X.env (eval o X.env) = eval o X.env := by rfl) (h3 : (apos.endLine == cpos.line) = true := by rfl) : PEp X H0 (.Call (.Attribute o name apos) [] [] cpos) (tBM0 X.K T u to) := by
  obtain ⟨r, g1, g2⟩ := hm
  exact peW (pe_bm0 pa slot hty g1 ho h1 h3) fun σ H Q ⟨σp, M, Qp, t, s, m, u, k⟩ => ⟨σp, M, _, t, s, m, u, fun x H1 px M1 t1 m1 rx u1 =>
    ⟨tyP_to m1 rx u1.1, g2 x [] H1 px [] M1 Q Qp rx .nil m1 u1.2 fun v H2 p M2 t2 => k v H2 p M2 (t1.trans t2)⟩⟩
theorem pbm (pa : PlainAttrs T) (slot : Slot T name id) (hty : typeOf (.builtin id) = pure (.type "method_descriptor")) (hm : MtP X id u) (ho : PEp X H0 o to) (ha : PAp X H0 (e :: es) ta)
    (h1 : attributeBase o name X.env (eval o X.env) = eval o X.env := by rfl)
    (h2 : (((backTo cpos (starEach (e :: es) X.env)).all (fun x => !x.1) && (backToKw cpos (keywordEach [] X.env)).all (fun x => x.1.isSome)) && decide ((e :: es).length + ([] : List Keyword).length + (if ([] : List Keyword).isEmpty then 0 else 1) < 30)) = true := by rfl)
    (h3 : (apos.endLine == cpos.line) = true := by rfl) (h4 : starEach (e :: es) X.env = (false, eval e X.env) :: starEach es X.env := by rfl) (h5 : (backTo cpos (starEach es X.env)).any (·.1) = false := by rfl) :
    PEp X H0 (.Call (.Attribute o name apos) (e :: es) [] cpos) (tBM X.K T u to ta) := by
  obtain ⟨r, g1, g2⟩ := hm
  exact peW (pe_bm pa slot hty g1 ho ha h1 h2 h3 h4 h5) fun σ H Q ⟨σp, M, Qp, t, s, m, u, k⟩ => ⟨σp, M, _, t, s, m, u, fun x H1 px M1 t1 m1 rx u1 =>
    ⟨tyP_to m1 rx u1.1, σp, M1, _, t.trans t1, s.mono t1, m1, u1.2, fun xs H2 ps M2 t2 m2 rs u2 => g2 x xs H2 px ps M2 Q Qp (rx.mono t2) rs m2 u2 fun v H3 p M3 t3 => k v H3 p M3 (t1.trans (t2.trans t3))⟩⟩
def appendP : RMp := fun x ps M Q => match x, ps with
  | .ref a, [p] => ∃ l, M a = some (.lst l) ∧ l.length < sizeLine ∧ Q .non (updM M a (.lst (l ++ [p])))
  | _, _ => False
theorem mAppend : MtP X "list.append" appendP := by
  refine ⟨_, mt_append, fun x xs H px ps M Q Qp rx rs m u k => ?_⟩
  cases rx with
  | ref a => cases rs with
    | nil => exact u.elim
    | cons r rr => cases rr with
      | cons _ _ => exact u.elim
      | nil =>
        obtain ⟨l, h, hl, q⟩ := u
        obtain ⟨vs, e, rv⟩ := m _ _ h
        obtain ⟨tk, mm⟩ := Tk_set (l := l) m e (rv.snoc r)
        exact ⟨_, _, _, rfl, rfl, e, by rw [← rv.length]; exact hl, k _ _ _ _ tk mm .non q⟩
  | _ => cases rs <;> exact u.elim
def popP : RMp := fun x ps M Q => match x, ps with
  | .ref a, [] => ∃ l y, M a = some (.lst l) ∧ l[l.length - 1]? = some y ∧ Q y (updM M a (.lst l.dropLast))
  | _, _ => False
theorem Reps.dropLast {H : Hp} {ps : List PV} {vs : List V} (r : Reps K H ps vs) : Reps K H ps.dropLast vs.dropLast := by
  rw [List.dropLast_eq_take, List.dropLast_eq_take, r.length]
  exact r.take _
theorem mPop : MtP X "list.pop" popP := by
  refine ⟨_, mt_pop, fun x xs H px ps M Q Qp rx rs m u k => ?_⟩
  cases rx with
  | ref a => cases rs with
    | cons _ _ => exact u.elim
    | nil =>
      obtain ⟨l, y, h, hl, q⟩ := u
      obtain ⟨vs, e, rv⟩ := m _ _ h
      obtain ⟨v, e2, r2⟩ := rv.get hl
      obtain ⟨tk, mm⟩ := Tk_set (l := l) m e rv.dropLast
      exact ⟨_, _, v, rfl, rfl, e, by rw [← rv.length]; exact e2, k _ _ _ _ tk mm (r2.mono tk) q⟩
  | _ => cases rs <;> exact u.elim
/-- the first place of a whole number in a list of whole numbers -/
def indexIP (K : Kf) : RMp := fun x ps M Q => match x, ps with
  | .ref a, [.int y] => ∃ (ns : List Int) (j : Nat), rdL K M a (ns.map PV.int) ∧ ns[j]? = some y ∧ (∀ i, i < j → ns[i]? ≠ some y) ∧ Q (.int (j : Int)) M
  | _, _ => False
theorem mIndexI : MtP X "list.index" (indexIP X.K) := by
  refine ⟨_, mt_index, fun x xs H px ps M Q Qp rx rs m u k => ?_⟩
  cases rx with
  | ref a => cases rs with
    | nil => exact u.elim
    | cons r rr => cases rr with
      | cons _ _ => cases r <;> exact u.elim
      | nil => cases r with
        | int y =>
          obtain ⟨ns, j, h, h1, h2, q⟩ := u
          obtain ⟨vs, e, rv⟩ := h.to m
          have e2 := rv.ints
          subst e2
          refine ⟨a, ns.map V.int, .int y, j, .int y, rfl, rfl, e, rfl, ?_, ?_, ?_, ?_, k _ _ _ _ (Tk.refl _ _) m (.int _) q⟩
          · rw [List.all_eq_true]
            intro z hz
            obtain ⟨n, _, rfl⟩ := List.mem_map.mp hz
            rfl
          · rw [List.getElem?_map, h1]; rfl
          · show (y == y) = true
            exact beq_self_eq_true y
          · intro i z hi hz
            rw [List.getElem?_map] at hz
            cases e3 : ns[i]? with
            | none => rw [e3] at hz; cases hz
            | some n =>
              rw [e3] at hz
              have e4 := Option.some.inj hz
              subst e4
              show (n == y) = false
              rw [beq_eq_false_iff_ne]
              intro e5
              exact h2 i hi (by rw [e3, e5])
        | _ => exact u.elim
  | _ => cases rs with
    | nil => exact u.elim
    | cons r rr => cases rr <;> cases r <;> exact u.elim
end
end PL

set_option Elab.async false
set_option linter.all false
set_option maxRecDepth 100000
set_option maxHeartbeats 2000000
/-! PL7: the end of a law. -/
namespace PL
open PySem L2 PySem.Spec PyProof.Rows
/-- the end: as law_call of the layer, but the def may also use that nothing sees a great division -/
theorem law_callS {P : Program} {w : World} {K : Kf} {mg mb : Str → Option Value} {k : Nat} {fa sc : Addr} {fd : FuncData} {x : Str} {sp : Sp} {t : Shared} {us : List Value} {zs : List Int}
    (kin : K.In t.heap) (glob : t.heap.Ns mainGlobals mg) (blt : t.heap.Ns builtinsNs mb) (boot : ∀ x : Str, x ≠ "__name__" → mb x = bootBuiltins x) (lim : t.heap.NoLimit) (see : t.heap.NoSeer) (quiet : t.gens = #[])
    (script : t.heap.get? sc = some { cls := .type "list", data := .seq us.toArray }) (whole : IntsAre us zs) (few : zs.length ≤ sizeLine) (room : Room k callerA)
    (F : ∀ base : Heap, K.In base → base.Ns mainGlobals mg → base.NoSeer → FnOk P w K mg base CX0 k fa fd [x] sp) (binds : ∀ (s : Shared) (u : Value), BindsTo s fd ⟨[u], []⟩ [(x, u)])
    (keeps : ∀ H : Hp, Only H → SqL K H sc (zs.map V.int) → sp [.ref sc] H (fun v _ => v = .bl true) fun _ _ _ => False) :
    codeAny (model P w) callerA (.call (.ref fa) ⟨[.ref sc], []⟩) (fun r s' => r = .ok (.ret (.bool true)) ∧ OldK t.heap s'.heap ∧ s'.os = t.os ∧ AllBare s'.gens) t := by
  have vals := vals_ints whole
  -- H tracks the script at most; then the base is the heap without it
  have main : ∀ H : Hp, Only H → SqL K H sc (zs.map V.int) → HOk P w H t.heap → (∀ b, H b ≠ none → b = sc ∧ K.lookup sc = none) →
      codeAny (model P w) callerA (.call (.ref fa) ⟨[.ref sc], []⟩) (fun r s' => r = .ok (.ret (.bool true)) ∧ OldK t.heap s'.heap ∧ s'.os = t.os ∧ AllBare s'.gens) t := by
    intro H only seq ok at_sc
    have free : ∀ {b : Addr} {o : Obj}, t.heap.get? b = some o → o ≠ { cls := .type "list", data := .seq us.toArray } → H b = none := fun {b o} e d => by
      cases q : H b with
      | none => rfl
      | some u =>
        obtain ⟨rfl, _⟩ := at_sc b (by rw [q]; exact Option.some_ne_none u)
        exact absurd (Option.some.inj (e.symm.trans script)) d
    have stay : ∀ {b : Addr} {o : Obj}, t.heap.get? b = some o → o ≠ { cls := .type "list", data := .seq us.toArray } → (hidT t.heap H).get? b = some o := fun e d => hidT_get e (free e d)
    have ns : ∀ {b : Addr} {m : Str → Option Value}, t.heap.Ns b m → (hidT t.heap H).Ns b m := fun {b m} n => by
      obtain ⟨o, es, ep, e, d, r⟩ := n
      refine ⟨o, es, ep, stay e (fun z => ?_), d, r⟩
      subst z
      exact Data.noConfusion d
    have kb : K.In (hidT t.heap H) := fun b o e => hidT_get (kin b o e) (by
      cases q : H b with
      | none => rfl
      | some u =>
        obtain ⟨rfl, no⟩ := at_sc b (by rw [q]; exact Option.some_ne_none u)
        rw [no] at e; cases e)
    have nsee : (hidT t.heap H).NoSeer := by
      obtain ⟨⟨m1, a1, b1⟩, ⟨m2, a2, b2⟩, ⟨m3, a3, b3⟩, ⟨m4, bm, ob, a4, b4, c4, d4, e4⟩⟩ := see
      refine ⟨⟨m1, ns a1, b1⟩, ⟨m2, ns a2, b2⟩, ⟨m3, ns a3, b3⟩, ⟨m4, bm, ob, ns a4, b4, stay c4 (fun z => ?_), d4, e4⟩⟩
      subst z
      injection d4 with d5
      revert d5; decide
    have nlim : (hidT t.heap H).NoLimit := by
      obtain ⟨m1, a1, b1⟩ := lim
      exact ⟨m1, ns a1, b1⟩
    have around : Env0 P w K mg (hidT t.heap H) callerA [] t H := ⟨rfl, ⟨kb, ns glob, ⟨mb, ns blt, boot⟩, nlim⟩, fun b o e => of_hidT e, Nat.le_of_eq (hidT_size _ _), trivial, (fun b hb => by cases hb), ok, .of_eq quiet⟩
    have ran := (F _ kb (ns glob) nsee).run callerA [] t H ⟨[.ref sc], []⟩ [.ref sc] [.ref sc] _ _ room around (binds t (.ref sc)) (.cons rfl .nil) (keeps H only seq)
    refine codeAny_mono ran fun r s' h => ?_
    match r, h with
    | .ok (.ret u), ⟨v, H', os, bare, un, ok', rel, hv⟩ =>
      have hv' : v = .bl true := hv
      subst hv'
      obtain rfl : u = Value.bool true := rel
      refine ⟨rfl, .of_keep fun b o e => ?_, os, bare⟩
      cases q : H b with
      | none => exact un.keep b o e q (List.not_mem_nil) (List.not_mem_nil)
      | some u =>
        rcases only b with none | ⟨ob, xs, here⟩
        · rw [none] at q; cases q
        · have before := (ok b _ here).1
          have behind := (ok' b _ (un.frzs b ob _ here)).1
          rw [← Option.some.inj (before.symm.trans e)]
          exact behind
  by_cases known : K.lookup sc = none
  · refine main (fun b => if b = sc then some (.frz { cls := .type "list", data := .seq us.toArray } (.lst (zs.map V.int))) else none) (fun b => ?_) (.inl (.inr ⟨_, if_pos rfl⟩)) (fun b u here => ?_) fun b here => ?_
    all_goals by_cases at_b : b = sc
    · exact .inr ⟨_, _, if_pos at_b⟩
    · exact .inl (if_neg at_b)
    · subst at_b
      obtain rfl := Option.some.inj ((if_pos rfl).symm.trans here)
      exact ⟨script, Nat.le_trans (Nat.le_of_eq (List.length_map _)) few, us, _, vals, script⟩
    · exfalso; have z := (if_neg at_b).symm.trans here; cases z
    · exact ⟨at_b, known⟩
    · exact absurd (if_neg at_b) here
  · obtain ⟨o, ko⟩ := Option.ne_none_iff_exists'.mp known
    have same := Option.some.inj ((kin sc o ko).symm.trans script)
    subst same
    exact main (fun _ => none) (fun _ => .inl rfl) (.inr ⟨_, us.toArray, _, ko, rfl, rfl, rfl, by rw [List.size_toArray, whole.length]; exact few, vals⟩) (fun b u here => by cases here) fun b here => absurd rfl here
/-- what the law's own def promises -/
def spLaw (K : Kf) : PSpec := fun vs M Q _ => ∃ (a : Addr) (ns : List Int), vs = [.ref a] ∧ rdL K M a (ns.map PV.int) ∧ ns.length ≤ 63 ∧ (∀ z ∈ ns, Builtin.Int.intBits z ≤ 1048576) ∧ Q (.bl true) M
theorem walkP {l : PySem.W.OpenLaw} {k : Nat} {q : Program} {loose : List Str} {XP : (Str → Option Value) → Heap → Prop} {YP : World → Heap → Prop} {d : DefRec} {K : Params → Kf} {x : Str}
    (hn : l.most = some 63) (hdf : d.params.defaults = []) (hr : Room k callerA) (ht : l.prog.given.tree = none) (hq : importsNone q = true)
    (hY : ∀ (wd : World) (hp : Heap), YP wd hp → (K wd.params).In hp)
    (F : ∀ (wd : World) (g : Str → Option Value) (fa : Addr) (hp : Heap), (K wd.params).In hp → hp.Ns mainGlobals g → g d.name = some (.ref fa) →
      ∃ fd : FuncData, (∀ (t : Shared) (z : Value), BindsTo t fd ⟨[z], []⟩ [(x, z)]) ∧ ∀ b0 : Heap, (K wd.params).In b0 → b0.Ns mainGlobals g → Sure l.prog b0 → FnOk l.prog wd (K wd.params) g b0 CX0 k fa fd [x] (concF (K wd.params) (spLaw (K wd.params)))) :
    PySem.W.WalkO q loose XP YP l.row.toRowW d [] (fun fn us => PySem.call fn us) := by
  refine Att.attach_callB hn hdf fun w before after mg mb fa o pm cd doc a vs ns G Y _ _ _ named here whole few bits quiet => ?_
  have kin := hY w _ Y
  obtain ⟨fd, bound, proved⟩ := F w mg fa _ kin G.T.g named
  refine law_callS kin G.T.g G.T.b G.T.builtins G.T.nolimit (G.T.seer hq) quiet here whole (Nat.le_trans few (by decide)) hr (fun base h1 h2 h3 => proved base h1 h2 ⟨h3, ht⟩) bound (fun H hO hS => ?_)
  rcases hS with hS | hS
  · refine ⟨[.ref a], fun b => if b = a then some (.ro (ns.map PV.int)) else none, fun v _ => v = .bl true, fun _ _ _ => False, .cons (.ref a) .nil, fun b o e => ?_, ⟨a, ns, rfl, .inr (.inl (if_pos rfl)), few, bits, rfl⟩, fun v H' p M' _ _ r e => ?_, fun _ _ _ _ _ _ z => z⟩
    · have e : (if b = a then some (MO.ro (ns.map PV.int)) else none) = some o := e
      by_cases hb : b = a
      · rw [if_pos hb] at e; cases e; subst hb
        exact ⟨_, hS, Reps.of_ints⟩
      · rw [if_neg hb] at e; cases e
    · subst e; cases r; rfl
  · refine ⟨[.ref a], fun b => none, fun v _ => v = .bl true, fun _ _ _ => False, .cons (.ref a) .nil, (fun b o e => by cases e), ⟨a, ns, rfl, .inr (.inr ⟨_, hS, fun H => Reps.of_ints⟩), few, bits, rfl⟩, fun v H' p M' _ _ r e => ?_, fun _ _ _ _ _ _ z => z⟩
    subst e; cases r; rfl
/-- a def stands where the top has written it -/
theorem here_of {K : Kf} {h : Heap} {mg : Str → Option Value} {x : Str} {st : Stmt} {ps : List Str} {f : Addr} {oc : Value} {od an : Option Addr} {osl : Array (Option Value)} {kV dc pm cd ct : Value} (X : K.In h) (G : h.Ns mainGlobals mg)
    (a : PySem.W.nsIn K mainGlobals x = some (some (.ref f))) (l : K.lookup f = some ⟨oc, od, .func (PySem.W.fnOf x x (defArgs st) (defBody st) (defScope st) .none kV dc pm an cd ct), osl⟩) (c : PySem.W.codeIn K cd x = true) (k : PySem.W.keepIn K (.ref f) = true)
    (b : ∀ (kV doc pm : Value) (an : Option Addr) (cdv ct : Value) (us : List Value), us.length = ps.length → bindArgs (PySem.W.fnOf x x (defArgs st) (defBody st) (defScope st) .none kV doc pm an cdv ct) ⟨us, []⟩ = pure (ps.zip us)) : Here K mg x st ps :=
  ⟨⟨f, _, fun_mk l c k, PySem.W.mg_of X G a, (fun_mk l c k).binds b⟩⟩
/-- the law's own def -/
theorem law_of {P : Program} {w : World} {K : Kf} {mg : Str → Option Value} {base : Heap} {k : Nat} {x : Str} {st : Stmt} {N ps : List Str} {psp : PSpec} {f : Addr} {fd : FuncData} (F : Fun K x x st f fd) (S : FnScope N ps (defScope st)) (len : ∀ vs M Q E, psp vs M Q E → vs.length = ps.length)
    (body : ∀ f cdv A outer s H E, Room k (defCx P w K mg base N x st f cdv A outer s H E).A → ∃ t, PSsp (defCx P w K mg base N x st f cdv A outer s H E) H (defBody st) t ∧ ∀ vs M Q Ep, psp vs M Q Ep → t (ends Q) (startP N vs) M) :
    FnOk P w K mg base CX0 (k + 1) f fd ps (concF K psp) := by
  refine F.ok S (fun vs H Q E h => ?_) (fun cdv A outer s H vs Q E hr h => ?_)
  · obtain ⟨qs, M, Qp, Ep, r, m, u, _⟩ := h
    rw [← r.length]
    exact len _ _ _ _ u
  · obtain ⟨qs, M, Qp, Ep, r, m, u, k1, k2⟩ := h
    obtain ⟨t, d, b⟩ := body f cdv A outer s H E hr
    refine ⟨_, d, startP N qs, M, ends Qp, Tk.refl _ _, startP_rel r N, m, b _ _ _ _ u, ⟨fun σ' H' σp' M' t1 s1 m1 q => ?_, fun v H' p M' t1 m1 r1 q => ?_, fun _ _ _ _ _ _ _ z => z.elim, fun _ _ _ _ _ _ _ z => z.elim⟩⟩
    · obtain ⟨M0, sb, q⟩ := q
      exact k1 _ _ _ _ t1 (m1.sub sb) .non q
    · obtain ⟨M0, sb, q⟩ := q
      exact k1 _ _ _ _ t1 (m1.sub sb) r1 q
end PL
namespace PL
open PySem L2
section
variable {X : Cx} {H0 : Hp} {K : Kf} {st : Stmt} {rest : List Stmt} {ts us : TSp}
/-- a statement, then the rest from a word between them -/
@[reducible] def tCut (t u : TSp) : TSp := fun D σ M => ∃ Mid : PSt → PHp → Prop, t (nxt D (Nx Mid)) σ M ∧ ∀ σ' M', Mid σ' M' → u D σ' M'
theorem psscut (h1 : PSp' X H0 st ts) (h2 : PSsp X H0 rest us) : PSsp X H0 (st :: rest) (tCut ts us) := pssW (pss_cons h1 h2) fun D σ H ⟨σp, M, Dp, t, s, m, ⟨Mid, u, q⟩, k⟩ =>
  ⟨σp, M, _, t, s, m, u, ⟨fun σ1 H1 σp1 M1 t1 s1 m1 ⟨σ0, M0, ss, sm, z⟩ => ⟨σ0, M0, Dp, t.trans t1, s1.sub ss, m1.sub sm, q _ _ z, k.mono t1⟩, k.rt, k.bk, k.ct⟩⟩
end
end PL

set_option Elab.async false
set_option linter.all false
set_option maxRecDepth 100000
set_option maxHeartbeats 2000000
/-! PL8: answers. -/
namespace PL
open PySem L2
section
variable {K : Kf} {M : PHp} {a : Addr} {l xs : List PV} {v : PV} {i j : Int} {n : Nat} {B : Prop}
theorem g_ixl {R : PV → Prop} (h : rdL K M a l) (e : atI l i = some v) (q : R v) : ∃ l, rdL K M a l ∧ ∃ v, atI l i = some v ∧ R v := ⟨_, h, _, e, q⟩
theorem g_ixt {R : PV → Prop} (e : atI l i = some v) (q : R v) : ∃ v, atI l i = some v ∧ R v := ⟨_, e, q⟩
theorem g_rd {R : List PV → Prop} (h : rdL K M a l) (q : R l) : ∃ l, rdL K M a l ∧ R l := ⟨_, h, q⟩
theorem g_set {R : List PV → Nat → Prop} (h : M a = some (.lst xs)) (e : ixN xs.length i = some n) (q : R xs n) : ∃ xs j, M a = some (.lst xs) ∧ ixN xs.length i = some j ∧ R xs j := ⟨_, _, h, e, q⟩
theorem g_app {R : List PV → Prop} (h : M a = some (.lst xs)) (e : xs.length < sizeLine) (q : R xs) : ∃ l, M a = some (.lst l) ∧ l.length < sizeLine ∧ R l := ⟨_, h, e, q⟩
theorem g_lst {R : List PV → Prop} (h : M a = some (.lst xs)) (q : R xs) : ∃ l, M a = some (.lst l) ∧ R l := ⟨_, h, q⟩
theorem g_sz (h : xs.length ≤ sizeLine) (q : B) : xs.length ≤ sizeLine ∧ B := ⟨h, q⟩
theorem g_mul (h : IntMulOk i j) (q : B) : IntMulOk i j ∧ B := ⟨h, q⟩
theorem g_ne (h : j ≠ 0) (q : B) : j ≠ 0 ∧ B := ⟨h, q⟩
theorem g_pow (h : 0 ≤ j ∧ j ≤ 1000000 ∧ i.natAbs < 2 ^ 64) (q : B) : (0 ≤ j ∧ j ≤ 1000000 ∧ i.natAbs < 2 ^ 64) ∧ B := ⟨h, q⟩
theorem g_kit {t s : String} (h : isiKit t s = true) (q : B) : isiKit t s = true ∧ B := ⟨h, q⟩
theorem g_rng1 (h : -(2 ^ 62) ≤ j ∧ j < 2 ^ 62) (q : B) : (-(2 ^ 62) ≤ j ∧ j < 2 ^ 62) ∧ B := ⟨h, q⟩
theorem g_rng2 (h : -(2 ^ 62) ≤ i ∧ i < 2 ^ 62 ∧ -(2 ^ 62) ≤ j ∧ j < 2 ^ 62) (q : B) : (-(2 ^ 62) ≤ i ∧ i < 2 ^ 62 ∧ -(2 ^ 62) ≤ j ∧ j < 2 ^ 62) ∧ B := ⟨h, q⟩
theorem g_tup {k : Nat} (h : xs.length = k) (q : B) : xs.length = k ∧ B := ⟨h, q⟩
theorem g_ty {T : String} {x : PV} (h : tyP K T x M) (q : B) : tyP K T x M ∧ B := ⟨h, q⟩
theorem small_ok {i j : Int} (h : i.natAbs < 2 ^ 64) : IntMulOk i j := by
  refine IntMulOk.of_left ?_
  unfold Builtin.Int.intBits
  split
  · omega
  · rename_i hz
    have h2 := (Nat.log2_lt (n := i.natAbs) (k := 64) (by simpa using hz)).mpr h
    omega
theorem small_ok' {i j : Int} (h : j.natAbs < 2 ^ 64) : IntMulOk i j := by
  refine IntMulOk.of_right ?_
  unfold Builtin.Int.intBits
  split
  · omega
  · rename_i hz
    have h2 := (Nat.log2_lt (n := j.natAbs) (k := 64) (by simpa using hz)).mpr h
    omega
end
/-! the same with the written part named -/
section
variable {X : Cx} {H0 : Hp} {pos : Pos} {K : Kf}
theorem opEqK (hu : X.A.units + 64 < cLine) (hK : X.K = K := by rfl) : OpP X (compareOp .Eq) (eqP K) := hK ▸ opEq hu
theorem opNeK (hu : X.A.units + 64 < cLine) (hK : X.K = K := by rfl) : OpP X (compareOp .NotEq) (neP K) := hK ▸ opNe hu
theorem cLenK (hK : X.K = K := by rfl) : CallP X (.builtin "len") (lenP K) := hK ▸ cLen
theorem cTupleK (hK : X.K = K := by rfl) : CallP X (.type "tuple") (tupleP K) := hK ▸ cTuple
theorem cListK (hK : X.K = K := by rfl) : CallP X (.type "list") (listP K) := hK ▸ cList
theorem cIsiK (hK : X.K = K := by rfl) : CallP X (.builtin "isinstance") (isiP K) := hK ▸ cIsi
theorem cSumK (hc : X.calm = true) (hK : X.K = K := by rfl) : CallP X (.builtin "sum") (sumP K) := hK ▸ cSum hc
theorem cMaxK (hc : X.calm = true) (hK : X.K = K := by rfl) : CallP X (.builtin "max") (maxP K) := hK ▸ cMax hc
theorem cMinK (hc : X.calm = true) (hK : X.K = K := by rfl) : CallP X (.builtin "min") (minP K) := hK ▸ cMin hc
theorem mIndexIK (hK : X.K = K := by rfl) : MtP X "list.index" (indexIP K) := hK ▸ mIndexI
theorem pixK {a b : Expr} {ta tb : TEp} (ha : PEp X H0 a ta) (hb : PEp X H0 b tb) (hs : PlainIx b := by exact fun _ _ => rfl) (hK : X.K = K := by rfl) : PEp X H0 (.Subscript a b pos) (tOp (ixP K) ta tb) := by
  subst hK; exact pix ha hb hs
theorem piseqK {tg e : Expr} {te : TEp} (h : PEp X H0 e te) (hK : X.K = K := by rfl) : PIp' X H0 tg e (iSeq K te) := by
  subst hK; exact piseq h
variable {o e : Expr} {es : List Expr} {to : TEp} {ta : TAp} {name : Str} {apos cpos : Pos} {T id : String} {u : RMp}
theorem pbm0K (pa : PlainAttrs T) (slot : Slot T name id) (hty : typeOf (.builtin id) = pure (.type "method_descriptor")) (hm : MtP X id u) (ho : PEp X H0 o to)
    (h1 : attributeBase o name X.env (eval o X.env) = eval o X.env := by rfl) (h3 : (apos.endLine == cpos.line) = true := by rfl) (hK : X.K = K := by rfl) : PEp X H0 (.Call (.Attribute o name apos) [] [] cpos) (tBM0 K T u to) := by
  subst hK; exact pbm0 pa slot hty hm ho h1 h3
theorem pbmK (pa : PlainAttrs T) (slot : Slot T name id) (hty : typeOf (.builtin id) = pure (.type "method_descriptor")) (hm : MtP X id u) (ho : PEp X H0 o to) (ha : PAp X H0 (e :: es) ta)
    (h1 : attributeBase o name X.env (eval o X.env) = eval o X.env := by rfl)
    (h2 : (((backTo cpos (starEach (e :: es) X.env)).all (fun x => !x.1) && (backToKw cpos (keywordEach [] X.env)).all (fun x => x.1.isSome)) && decide ((e :: es).length + ([] : List Keyword).length + (if ([] : List Keyword).isEmpty then 0 else 1) < 30)) = true := by rfl)
    (h3 : (apos.endLine == cpos.line) = true := by rfl) (h4 : starEach (e :: es) X.env = (false, eval e X.env) :: starEach es X.env := by rfl) (h5 : (backTo cpos (starEach es X.env)).any (·.1) = false := by rfl) (hK : X.K = K := by rfl) :
    PEp X H0 (.Call (.Attribute o name apos) (e :: es) [] cpos) (tBM K T u to ta) := by
  subst hK; exact pbm pa slot hty hm ho ha h1 h2 h3 h4 h5
end
end PL

set_option Elab.async false
set_option linter.all false
set_option maxRecDepth 100000
set_option maxHeartbeats 4000000
namespace PL
open PySem L2
open Builtin.Int (intBits)
def topS (i : Nat) : Stmt := PySem.Challenge.pw_toldotherwise_k06_fractions_and_weights.main.body.getD i (.Pass ⟨0, 0, 0, 0⟩)
abbrev s_reduced : Stmt := topS 2
theorem sc_reduced : FnScope ["weights", "common", "weight"] ["weights"] (defScope s_reduced) := ⟨rfl, rfl, rfl, by decide +kernel, rfl, by decide +kernel, by decide +kernel⟩
abbrev s_fraction : Stmt := topS 3
theorem sc_fraction : FnScope ["top", "bottom", "common"] ["top", "bottom"] (defScope s_fraction) := ⟨rfl, rfl, rfl, by decide +kernel, rfl, by decide +kernel, by decide +kernel⟩
abbrev s_plus : Stmt := topS 4
theorem sc_plus : FnScope ["left", "right"] ["left", "right"] (defScope s_plus) := ⟨rfl, rfl, rfl, by decide +kernel, rfl, by decide +kernel, by decide +kernel⟩
abbrev s_times : Stmt := topS 5
theorem sc_times : FnScope ["left", "right"] ["left", "right"] (defScope s_times) := ⟨rfl, rfl, rfl, by decide +kernel, rfl, by decide +kernel, by decide +kernel⟩
abbrev s_is_less : Stmt := topS 6
theorem sc_is_less : FnScope ["left", "right"] ["left", "right"] (defScope s_is_less) := ⟨rfl, rfl, rfl, by decide +kernel, rfl, by decide +kernel, by decide +kernel⟩
abbrev s__law_source : Stmt := topS 8
theorem sc__law_source : FnScope ["script", "mixed", "cell"] ["script"] (defScope s__law_source) := ⟨rfl, rfl, rfl, by decide +kernel, rfl, by decide +kernel, by decide +kernel⟩
abbrev s__law_draw : Stmt := topS 9
theorem sc__law_draw : FnScope ["script", "source", "limit", "cell", "found"] ["script", "source", "limit"] (defScope s__law_draw) := ⟨rfl, rfl, rfl, by decide +kernel, rfl, by decide +kernel, by decide +kernel⟩
abbrev s__law_gcd : Stmt := topS 10
theorem sc__law_gcd : FnScope ["a", "b"] ["a", "b"] (defScope s__law_gcd) := ⟨rfl, rfl, rfl, by decide +kernel, rfl, by decide +kernel, by decide +kernel⟩
abbrev s__law_whole : Stmt := topS 11
theorem sc__law_whole : FnScope ["item"] ["item"] (defScope s__law_whole) := ⟨rfl, rfl, rfl, by decide +kernel, rfl, by decide +kernel, by decide +kernel⟩
abbrev s__law_number : Stmt := topS 12
theorem sc__law_number : FnScope ["script", "source", "number", "size"] ["script", "source"] (defScope s__law_number) := ⟨rfl, rfl, rfl, by decide +kernel, rfl, by decide +kernel, by decide +kernel⟩
abbrev s__law_bottom : Stmt := topS 13
theorem sc__law_bottom : FnScope ["script", "source", "number"] ["script", "source"] (defScope s__law_bottom) := ⟨rfl, rfl, rfl, by decide +kernel, rfl, by decide +kernel, by decide +kernel⟩
abbrev s__law_is_fraction : Stmt := topS 14
theorem sc__law_is_fraction : FnScope ["told", "top", "bottom"] ["told", "top", "bottom"] (defScope s__law_is_fraction) := ⟨rfl, rfl, rfl, by decide +kernel, rfl, by decide +kernel, by decide +kernel⟩
abbrev s__law_lowest : Stmt := topS 15
theorem sc__law_lowest : FnScope ["top", "bottom", "common"] ["top", "bottom"] (defScope s__law_lowest) := ⟨rfl, rfl, rfl, by decide +kernel, rfl, by decide +kernel, by decide +kernel⟩
abbrev s__law_less_told : Stmt := topS 16
theorem sc__law_less_told : FnScope ["left", "right", "told"] ["left", "right"] (defScope s__law_less_told) := ⟨rfl, rfl, rfl, by decide +kernel, rfl, by decide +kernel, by decide +kernel⟩
abbrev s__law_pair_told : Stmt := topS 17
theorem sc__law_pair_told : FnScope ["left", "right"] ["left", "right"] (defScope s__law_pair_told) := ⟨rfl, rfl, rfl, by decide +kernel, rfl, by decide +kernel, by decide +kernel⟩
abbrev s__law_fraction_told : Stmt := topS 18
theorem sc__law_fraction_told : FnScope ["script", "source", "top", "bottom", "factor"] ["script", "source"] (defScope s__law_fraction_told) := ⟨rfl, rfl, rfl, by decide +kernel, rfl, by decide +kernel, by decide +kernel⟩
abbrev s__law_fractions_told : Stmt := topS 19
theorem sc__law_fractions_told : FnScope ["script", "source", "first", "second", "kind", "third", "one", "two", "top", "bottom"] ["script", "source"] (defScope s__law_fractions_told) := ⟨rfl, rfl, rfl, by decide +kernel, rfl, by decide +kernel, by decide +kernel⟩
abbrev s__law_weights : Stmt := topS 20
theorem sc__law_weights : FnScope ["script", "source", "factor", "weights", "k"] ["script", "source"] (defScope s__law_weights) := ⟨rfl, rfl, rfl, by decide +kernel, rfl, by decide +kernel, by decide +kernel⟩
abbrev s__law_is_reduced : Stmt := topS 21
theorem sc__law_is_reduced : FnScope ["told", "weights", "most", "at", "common", "weight", "k"] ["told", "weights"] (defScope s__law_is_reduced) := ⟨rfl, rfl, rfl, by decide +kernel, rfl, by decide +kernel, by decide +kernel⟩
abbrev s__law_weights_told : Stmt := topS 22
theorem sc__law_weights_told : FnScope ["script", "source", "weights", "kept", "factor", "zeros", "at", "weight"] ["script", "source"] (defScope s__law_weights_told) := ⟨rfl, rfl, rfl, by decide +kernel, rfl, by decide +kernel, by decide +kernel⟩
abbrev s_law : Stmt := topS 23
theorem sc_law : FnScope ["script", "source", "k"] ["script"] (defScope s_law) := ⟨rfl, rfl, rfl, by decide +kernel, rfl, by decide +kernel, by decide +kernel⟩
structure Blt (mg : Str → Option Value) : Prop where
  b_abs : mg "abs" = none
  b_bool : mg "bool" = none
  b_int : mg "int" = none
  b_isinstance : mg "isinstance" = none
  b_len : mg "len" = none
  b_list : mg "list" = none
  b_max : mg "max" = none
  b_range : mg "range" = none
  b_tuple : mg "tuple" = none
  g_gcd : mg "gcd" = some (.builtin "math.gcd")
/-! the law's source of numbers -/
abbrev SL (i c m : Int) : MO := .lst [.int i, .int c, .int m]
/-- objects other than s persist -/
def Keep (s : Addr) (M M' : PHp) : Prop := ∀ b o, b ≠ s → M b = some o → M' b = some o
theorem Keep.refl (s : Addr) (M : PHp) : Keep s M M := fun _ _ _ h => h
theorem Keep.trans {s : Addr} {M M1 M2 : PHp} (a : Keep s M M1) (b : Keep s M1 M2) : Keep s M M2 := fun x o n h => b x o n (a x o n h)
theorem Keep.put {s : Addr} {M : PHp} {o : MO} : Keep s M (updM M s o) := fun b u n h => by rw [updM_ne n]; exact h
theorem Keep.new {s p : Addr} {M : PHp} {o : MO} (h : M p = none) : Keep s M (updM M p o) := fun b u n e => by rw [updM_ne (neM e h)]; exact e
theorem Keep.of_sub {s : Addr} {M M' : PHp} (h : Sub M M') : Keep s M M' := fun b o _ e => h b o e
theorem rdL.sub {K : Kf} {a : Addr} {M M' : PHp} {l : List PV} (h : rdL K M a l) (k : Sub M M') : rdL K M' a l := by
  rcases h with h | h | h
  · exact .inl (k _ _ h)
  · exact .inr (.inl (k _ _ h))
  · exact .inr (.inr h)
/-- the script at a, its source at s (a script that is the module's own may stand anywhere) -/
structure Env (K : Kf) (M : PHp) (a s : Addr) (ns : List Int) : Prop where
  rd0 : (a ≠ s ∧ (M a = some (.lst (ns.map PV.int)) ∨ M a = some (.ro (ns.map PV.int)))) ∨ KL K a (ns.map PV.int)
  src : ∃ i c m, M s = some (SL i c m) ∧ 0 ≤ i ∧ 0 ≤ c ∧ 0 ≤ m
  len : ns.length ≤ 63
  bits : ∀ z ∈ ns, Builtin.Int.intBits z ≤ 1048576
theorem Env.rd {K : Kf} {M : PHp} {a s : Addr} {ns : List Int} (e : Env K M a s ns) : rdL K M a (ns.map PV.int) := by
  rcases e.rd0 with ⟨_, h | h⟩ | h
  · exact .inl h
  · exact .inr (.inl h)
  · exact .inr (.inr h)
theorem Env.to {K : Kf} {M M' : PHp} {a s : Addr} {ns : List Int} (e : Env K M a s ns) (k : Keep s M M') {i c m : Int} (h : M' s = some (SL i c m)) (h1 : 0 ≤ i) (h2 : 0 ≤ c) (h3 : 0 ≤ m) : Env K M' a s ns := by
  refine ⟨?_, ⟨i, c, m, h, h1, h2, h3⟩, e.len, e.bits⟩
  rcases e.rd0 with ⟨n, h | h⟩ | h
  · exact .inl ⟨n, .inl (k _ _ n h)⟩
  · exact .inl ⟨n, .inr (k _ _ n h)⟩
  · exact .inr h
theorem Env.keep {K : Kf} {M M1 M2 : PHp} {a s : Addr} {ns : List Int} (e : Env K M a s ns) (e1 : Env K M1 a s ns) (k : Keep s M M2) (h : M2 s = M1 s) : Env K M2 a s ns := by
  obtain ⟨i, c, m, g1, g2, g3, g4⟩ := e1.src
  exact e.to k (h.trans g1) g2 g3 g4
theorem Env.put {K : Kf} {M : PHp} {a s : Addr} {ns : List Int} (e : Env K M a s ns) {i c m : Int} (h1 : 0 ≤ i) (h2 : 0 ≤ c) (h3 : 0 ≤ m) : Env K (updM M s (SL i c m)) a s ns := e.to .put updM_same h1 h2 h3
theorem Env.sub {K : Kf} {M M' : PHp} {a s : Addr} {ns : List Int} (e : Env K M a s ns) (h : Sub M M') : Env K M' a s ns := by
  obtain ⟨i, c, m, h1, h2, h3, h4⟩ := e.src
  exact e.to (.of_sub h) (h _ _ h1) h2 h3 h4
theorem Env.new {K : Kf} {M : PHp} {a s p : Addr} {ns : List Int} {o : MO} (e : Env K M a s ns) (h : M p = none) : Env K (updM M p o) a s ns := e.sub (.new h)
/-- from the law's own script -/
theorem Env.first {K : Kf} {M M' : PHp} {a s : Addr} {ns : List Int} {m : Int} (h : rdL K M a (ns.map PV.int)) (hs : M s = none) (sb : Sub M M') (hm : M' s = some (SL 0 0 m)) (h0 : 0 ≤ m) (hl : ns.length ≤ 63) (hb : ∀ z ∈ ns, Builtin.Int.intBits z ≤ 1048576) : Env K M' a s ns := by
  refine ⟨?_, ⟨0, 0, m, hm, by decide, by decide, h0⟩, hl, hb⟩
  rcases h with h | h | h
  · exact .inl ⟨neM h hs, .inl (sb _ _ h)⟩
  · exact .inl ⟨neM h hs, .inr (sb _ _ h)⟩
  · exact .inr h
theorem Env.src_ne {K : Kf} {M : PHp} {a s p : Addr} {ns : List Int} (e : Env K M a s ns) (h : M p = none) : p ≠ s := by
  obtain ⟨i, c, m, h1, _⟩ := e.src
  exact neM' h1 h
theorem Keep.put1 {s : Addr} {M M1 : PHp} {o : MO} (k : Keep s M M1) : Keep s M (updM M1 s o) := k.trans .put
theorem Keep.new1 {s p : Addr} {M M1 : PHp} {o : MO} (k : Keep s M M1) (h : M1 p = none) : Keep s M (updM M1 p o) := k.trans (.new h)
theorem at_ints {ns : List Int} {i : Int} (h0 : 0 ≤ i) (h1 : i < (ns.length : Int)) : ∃ z, z ∈ ns ∧ ns[i.toNat]? = some z ∧ atI (ns.map PV.int) i = some (.int z) := by
  obtain ⟨j, rfl⟩ : ∃ j : Nat, i = (j : Int) := ⟨i.toNat, by omega⟩
  have h : j < ns.length := by omega
  refine ⟨ns[j], List.getElem_mem h, List.getElem?_eq_getElem h, atI_nat ?_⟩
  rw [List.getElem?_map, List.getElem?_eq_getElem h]
  rfl
theorem fm {i j : Int} (h : 0 < j) : 0 ≤ i.fmod j ∧ i.fmod j < j := by
  rw [Int.fmod_eq_emod_of_nonneg i (by omega)]
  exact ⟨Int.emod_nonneg i (by omega), Int.emod_lt_of_pos i h⟩
theorem fd0 {i j : Int} (h0 : 0 ≤ i) (h : 0 < j) : 0 ≤ i.fdiv j := by
  rw [Int.fdiv_eq_ediv_of_nonneg i (by omega)]
  exact Int.ediv_nonneg h0 (by omega)
theorem p18 : (10 : Int) ^ Int.toNat 18 = 1000000000000000000 := by decide
theorem p9 : (10 : Int) ^ Int.toNat 9 = 1000000000 := by decide
theorem p20 : (10 : Int) ^ Int.toNat 20 = 100000000000000000000 := by decide
theorem p31 : (10 : Int) ^ Int.toNat 31 = 10000000000000000000000000000000 := by decide
def sp__law_draw (K : Kf) : PSpec := fun vs M Q _ => ∃ (a s : Addr) (ns : List Int) (l : Int), vs = [.ref a, .ref s, .int l] ∧ Env K M a s ns ∧ 0 < l ∧ Builtin.Int.intBits l ≤ 64 ∧
  ∀ r M', 0 ≤ r → r < l → Env K M' a s ns → Keep s M M' → Q (.int r) M'
theorem sp__law_draw_len {K : Kf} {vs : List PV} {M : PHp} {Q : PVK} {E : PXK} (h : sp__law_draw K vs M Q E) : vs.length = 3 := by
  obtain ⟨_, _, _, _, rfl, _⟩ := h; rfl

local macro_rules | `(tactic| walk_at "w") => `(tactic| (conv => whnf))
local macro_rules | `(tactic| walk_at "hp") => `(tactic| first | assumption | exact updM_same | exact updM_ne (by assumption) | (rw [updM_ne (by assumption)]; assumption) | (rw [updM_ne (Ne.symm (by assumption))]; assumption))
local macro_rules | `(tactic| walk_at "rd") => `(tactic| first | assumption | exact .inl (by walk_at "hp") | exact Env.rd (by assumption))
local macro_rules | `(tactic| walk_at "keep") => `(tactic| first | assumption | exact Keep.refl _ _ | (refine Keep.put1 ?_; walk_at "keep") | (refine Keep.new1 ?_ (by assumption); walk_at "keep") | (refine Keep.trans ?_ (by assumption); walk_at "keep"))
local macro_rules | `(tactic| walk_at "subs") => `(tactic| repeat (first | exact SubS.nil | refine SubS.same ?_ | refine SubS.none ?_))
local macro_rules | `(tactic| walk_at "p1") => `(tactic| (conv => whnf) <;> first
  | refine stp ?_
  | refine g_ixl (by walk_at "rd") rfl ?_
  | refine g_ixl (by walk_at "rd") (by assumption) ?_
  | refine g_ixt rfl ?_
  | refine g_ixt (by assumption) ?_
  | refine g_rd (by walk_at "rd") ?_
  | refine g_set (by walk_at "hp") rfl ?_
  | refine g_sz (szl rfl) ?_
  | refine g_mul (IntMulOk.of_right (by decide)) ?_
  | refine g_mul (IntMulOk.of_left (by decide)) ?_
  | refine g_mul (by assumption) ?_
  | refine g_ne (by decide) ?_
  | refine g_ne (by first | assumption | omega) ?_
  | refine g_pow (by decide) ?_
  | refine g_kit (by decide) ?_
  | refine g_tup rfl ?_
  | refine g_ty (.inl ⟨rfl, _, (by walk_at "rd")⟩) ?_
  | (with_reducible refine br_tt ?_)
  | (with_reducible refine br_ff ?_)
  | (with_reducible refine br_nt ?_)
  | (with_reducible refine br_nf ?_)
  | (with_reducible refine br_i1 (by decide) ?_)
  | (with_reducible refine br_i0 (by decide) ?_)
  | (with_reducible refine br_n1 (by decide) ?_)
  | (with_reducible refine br_n0 (by decide) ?_))
local macro_rules | `(tactic| walk_at "on") => `(tactic| ((repeat walk_at "p1"); (try (conv => whnf))))
local macro_rules | `(tactic| walk_at "go") => `(tactic| ((try dsimp only [defCx, Cx.nox, Cx.wish, cxOf]); walk_at "on"))

theorem ok__law_draw {P : Program} {w : World} {K : Kf} {mg : Str → Option Value} {base : Heap} (h0 : Here K mg "_law_draw" s__law_draw ["script", "source", "limit"]) (T : Blt mg) (Su : Sure P base)  : Callee P w K mg base 34 "_law_draw" ["script", "source", "limit"] (sp__law_draw K) := by
  refine ok_of h0 sc__law_draw (fun vs M Q E h => sp__law_draw_len h) (fun f cdv A outer s H E hr => ⟨_, (psscut (psif (PW.pt (pwand (ptcmp (opEqK (K := K) (by exact hr.units)) (pixK (K := K) (pv 1) pinT) pinT (nomark _)) (pwand1 (ptcmp (opLt (by exact hr.units0)) (pixK (K := K) (pv 1) pinT) (pcallB (cLenK (K := K)) (by rfl) T.b_len (by decide +kernel) (pacons (pv 0) panil)) (nomark _))))) (psscons (psset 3 sc__law_draw.nd (pcallB cAbs (by rfl) T.b_abs (by decide +kernel) (pacons (pixK (K := K) (pv 0) (pixK (K := K) (pv 1) pinT)) panil)))
      (psscons (psasg (pop opAdd (pixK (K := K) (pv 1) pinT) pinT) (pgsub (pv 1) pinT))
      (psscons (psif (ptcmp (opLt (by exact hr.units0)) (pv 3) (pop opPow pinT pinT) (nomark _)) (psscons (psset 3 sc__law_draw.nd (pop opMod (pcallTy cInt (by rfl) T.b_int (by decide +kernel) (pacons (pop opAdd (pop opAdd (pop opMul (pv 3) pinT) (pop opMul (pixK (K := K) (pv 1) pinT) pinT)) (pixK (K := K) (pv 1) pinT)) panil)) pinT))
      (pssone (psset 3 sc__law_draw.nd (pop opMod (pcallTy cInt (by rfl) T.b_int (by decide +kernel) (pacons (pop opAdd (pop opAdd (pop opMul (pv 3) (pv 3)) (pop opMul (pv 3) pinT)) (pixK (K := K) (pv 1) pinT)) panil)) pinT)))) pssnil)
      (pssone (psasg (pv 3) (pgsub (pv 1) pinT)))))) pssnil)
      (psscons (psif (ptcmp opGt (pixK (K := K) (pv 1) pinT) pinT (nomark _)) (psscons (psset 4 sc__law_draw.nd (pop opMod (pcallTy cInt (by rfl) T.b_int (by decide +kernel) (pacons (pixK (K := K) (pv 1) pinT) panil)) (pv 2)))
      (psscons (psasg (pop (opFdiv Su (by exact hr.mono (by decide))) (pixK (K := K) (pv 1) pinT) (pv 2)) (pgsub (pv 1) pinT))
      (pssone (psret (pv 4))))) pssnil)
      (psscons (psasg (pop opMod (pcallTy cInt (by rfl) T.b_int (by decide +kernel) (pacons (pop opAdd (pop opMul (pixK (K := K) (pv 1) pinT) pinT) pinT) panil)) pinT) (pgsub (pv 1) pinT))
      (pssone (psret (pop opMod (pcallTy cInt (by rfl) T.b_int (by decide +kernel) (pacons (pop (opFdiv Su (by exact hr.mono (by decide))) (pixK (K := K) (pv 1) pinT) pinT) panil)) (pv 2))))))), fun vs M Q Ep h => ?_⟩)
  obtain ⟨a, s, ns, l, rfl, e, hl, hb, k⟩ := h
  obtain ⟨i, c, m, hs, hi, hc, hm⟩ := e.src
  refine ⟨fun σ M1 => σ = [some (.ref a), some (.ref s), some (.int l), none, none] ∧ Env K M1 a s ns ∧ Keep s M M1, ?_, ?_⟩
  · walk_at "go"
    refine br_dec (fun h0 => ?_) (fun h0 => ?_)
    · walk_at "on"
      refine br_dec (fun h1 => ?_) (fun h1 => ?_)
      · rw [List.length_map] at h1
        obtain ⟨z, hz1, hz2, hz3⟩ := at_ints hi h1
        walk_at "on"
        refine br_dec (fun h2 => ?_) (fun h2 => ?_)
        · rw [p18] at h2
          walk_at "on"
          refine ⟨small_ok ?_, ?_⟩
          · have f := fm (i := (z.natAbs : Int) * 48271 + (i + 1) * 69621 + m) (j := 2147483647) (by decide)
            omega
          walk_at "on"
          refine ⟨_, _, ⟨?_, .refl _, rfl, e.to (by walk_at "keep") updM_same (by omega) (fm (by decide)).1 hm, by walk_at "keep"⟩⟩
          walk_at "subs"
        · walk_at "on"
          refine ⟨_, _, ⟨?_, .refl _, rfl, e.to (by walk_at "keep") updM_same (by omega) (by omega) hm, by walk_at "keep"⟩⟩
          walk_at "subs"
      · walk_at "on"
        exact ⟨_, _, .refl _, .refl _, rfl, e, .refl _ _⟩
    · walk_at "on"
      exact ⟨_, _, .refl _, .refl _, rfl, e, .refl _ _⟩
  · rintro σ M1 ⟨rfl, e1, k1⟩
    obtain ⟨i, c, m, hs, hi, hc, hm⟩ := e1.src
    walk_at "go"
    refine br_dec (fun h0 => ?_) (fun h0 => ?_)
    · walk_at "on"
      obtain ⟨f1, f2⟩ := fm (i := c) hl
      exact ⟨_, .refl _, k _ _ f1 f2 (e1.to (by walk_at "keep") updM_same hi (fd0 hc hl) hm) (k1.trans (by walk_at "keep"))⟩
    · walk_at "on"
      obtain ⟨f1, f2⟩ := fm (i := (Int.fmod (m * 69621 + 4321) 2147483647).fdiv 97) hl
      exact ⟨_, .refl _, k _ _ f1 f2 (e1.to (by walk_at "keep") updM_same hi hc (fm (by decide)).1) (k1.trans (by walk_at "keep"))⟩

/-- a source is made -/
def sp__law_source (K : Kf) : PSpec := fun vs M Q _ => ∃ (a : Addr) (ns : List Int), vs = [.ref a] ∧ rdL K M a (ns.map PV.int) ∧ ∀ p M' m, M p = none → Sub M M' → M' p = some (SL 0 0 m) → 0 ≤ m → Q (.ref p) M'
theorem sp__law_source_len {K : Kf} {vs : List PV} {M : PHp} {Q : PVK} {E : PXK} (h : sp__law_source K vs M Q E) : vs.length = 1 := by
  obtain ⟨_, _, rfl, _⟩ := h; rfl

theorem ok__law_source {P : Program} {w : World} {K : Kf} {mg : Str → Option Value} {base : Heap} (h0 : Here K mg "_law_source" s__law_source ["script"]) (T : Blt mg) (Su : Sure P base)  : Callee P w K mg base 34 "_law_source" ["script"] (sp__law_source K) := by
  refine ok_of h0 sc__law_source (fun vs M Q E h => sp__law_source_len h) (fun f cdv A outer s H E hr => ⟨_, (psscons (psset 1 sc__law_source.nd pinT)
      (psscons (psfor PassesOwn.never rfl (piseqK (K := K) (pv 0)) (pgname (i := 2) sc__law_source.nd) (pssone (psset 1 sc__law_source.nd (pop opMod (pcallTy cInt (by rfl) T.b_int (by decide +kernel) (pacons (pop opAdd (pop opAdd (pop opMul (pv 1) pinT) (pop opMul (pv 2) pinT)) pinT) panil)) pinT))))
      (pssone (psret (plst (pacons pinT (pacons pinT (pacons (pv 1) panil)))))))), fun vs M Q Ep h => ?_⟩)
  obtain ⟨a, ns, rfl, hr1, k⟩ := h
  walk_at "go"
  refine ⟨fun _ σ M' => ∃ m, σ = [some (.ref a), some (.int m), none] ∧ M' = M ∧ 0 ≤ m ∧ m < 2147483647, ⟨_, _, .refl _, .refl _, 20011, rfl, rfl, by decide, by decide⟩, ?_, ?_, ?_⟩
  · rintro _ σ M' ⟨m, rfl, rfl, _⟩
    exact hr1
  · rintro i x σ M' hx ⟨m, rfl, rfl, h0, h1⟩
    rw [List.getElem?_map] at hx
    cases hx2 : ns[i]? with
    | none => rw [hx2] at hx; cases hx
    | some z =>
      rw [hx2] at hx; cases hx
      walk_at "on"
      exact ⟨_, _, by walk_at "subs", .refl _, _, rfl, rfl, fm (by decide)⟩
  · rintro σ M' ⟨m, rfl, rfl, h0, h1⟩
    walk_at "on"
    intro p hp
    exact ⟨_, .refl _, k p _ m hp (.new hp) updM_same h0⟩

/-- n / d is t / b in lowest terms -/
structure IsFr (t b n d : Int) : Prop where
  pos : 0 < d
  low : Nat.gcd n.natAbs d.natAbs = 1
  eq : n * b = t * d
  ln : n.natAbs ≤ t.natAbs
  ld : d.natAbs ≤ b.natAbs
theorem fdiv_mul {c x : Int} (h : c ≠ 0) : (c * x).fdiv c = x := by
  rw [Int.mul_comm]; exact Int.mul_fdiv_cancel x h
/-- by a common divisor with the bottom's sign -/
theorem isFr_of {t b c : Int} (hb : b ≠ 0) (hc : c.natAbs = Nat.gcd t.natAbs b.natAbs) (hs : 0 < c ↔ 0 < b) : c ≠ 0 ∧ IsFr t b (t.fdiv c) (b.fdiv c) := by
  have g0 : 0 < Nat.gcd t.natAbs b.natAbs := Nat.gcd_pos_of_pos_right _ (by omega)
  have c0 : c ≠ 0 := by omega
  have dt : c ∣ t := Int.natAbs_dvd_natAbs.mp (hc ▸ Nat.gcd_dvd_left _ _)
  have db : c ∣ b := Int.natAbs_dvd_natAbs.mp (hc ▸ Nat.gcd_dvd_right _ _)
  obtain ⟨x, hx⟩ := dt
  obtain ⟨y, hy⟩ := db
  have ex : t.fdiv c = x := by rw [hx, fdiv_mul c0]
  have ey : b.fdiv c = y := by rw [hy, fdiv_mul c0]
  rw [ex, ey]
  have y0 : 0 < y := by
    rcases Int.lt_or_gt_of_ne c0 with hneg | hpos
    · have hb2 : ¬ 0 < b := fun q => absurd (hs.mpr q) (by omega)
      have hb3 : b < 0 := by omega
      rw [hy] at hb3
      rcases Int.lt_trichotomy y 0 with h | h | h
      · have := Int.mul_pos_of_neg_of_neg hneg h; omega
      · rw [h, Int.mul_zero] at hb3; omega
      · exact h
    · have hb2 : 0 < b := hs.mp hpos
      rw [hy] at hb2
      exact Int.pos_of_mul_pos_right hb2 hpos
  have ax : t.natAbs = c.natAbs * x.natAbs := by rw [hx, Int.natAbs_mul]
  have ay : b.natAbs = c.natAbs * y.natAbs := by rw [hy, Int.natAbs_mul]
  have c1 : 0 < c.natAbs := by omega
  refine ⟨c0, y0, ?_, ?_, ?_, ?_⟩
  · have h := hc
    rw [ax, ay, Nat.gcd_mul_left] at h
    have h2 : c.natAbs * Nat.gcd x.natAbs y.natAbs = c.natAbs * 1 := by omega
    exact Nat.eq_of_mul_eq_mul_left c1 h2
  · rw [hx, hy, Int.mul_comm c x, Int.mul_assoc]
  · rw [ax]; exact Nat.le_mul_of_pos_left _ c1
  · rw [ay]; exact Nat.le_mul_of_pos_left _ c1
theorem IsFr.bn {t b n d : Int} (h : IsFr t b n d) {m : Nat} (x : intBits t ≤ m) : intBits n ≤ m := intBits_le_of_natAbs h.ln x
theorem IsFr.bd {t b n d : Int} (h : IsFr t b n d) {m : Nat} (x : intBits b ≤ m) : intBits d ≤ m := intBits_le_of_natAbs h.ld x

def sp__law_gcd (K : Kf) : PSpec := fun vs M Q _ => ∃ (a b : Nat), vs = [.int a, .int b] ∧ Q (.int (Nat.gcd a b : Nat)) M
theorem sp__law_gcd_len {K : Kf} {vs : List PV} {M : PHp} {Q : PVK} {E : PXK} (h : sp__law_gcd K vs M Q E) : vs.length = 2 := by
  obtain ⟨_, _, rfl, _⟩ := h; rfl

theorem ok__law_gcd {P : Program} {w : World} {K : Kf} {mg : Str → Option Value} {base : Heap} (h0 : Here K mg "_law_gcd" s__law_gcd ["a", "b"]) (T : Blt mg) (Su : Sure P base)  : Callee P w K mg base 34 "_law_gcd" ["a", "b"] (sp__law_gcd K) := by
  refine ok_of h0 sc__law_gcd (fun vs M Q E h => sp__law_gcd_len h) (fun f cdv A outer s H E hr => ⟨_, (psscons (pswhile PassesOwn.never (ptcmp opGt (pv 1) pinT (nomark _)) (pssone (pspar 0 1 rfl sc__law_gcd.nd (pacons (pv 1) (pacons (pop opMod (pcallTy cInt (by rfl) T.b_int (by decide +kernel) (pacons (pv 0) panil)) (pv 1)) panil)) rfl rfl (by decide) (fun _ h => ps_par (by rfl) sc__law_gcd.nd rfl rfl (by decide) rfl rfl h (by rfl)))))
      (pssone (psret (pv 0)))), fun vs M Q Ep h => ?_⟩)
  obtain ⟨a, b, rfl, k⟩ := h
  walk_at "go"
  refine ⟨fun n σ M' => ∃ x y : Nat, σ = [some (.int x), some (.int y)] ∧ M' = M ∧ Nat.gcd x y = Nat.gcd a b ∧ y = n, ⟨b, _, _, .refl _, .refl _, a, b, rfl, rfl, rfl, rfl⟩, ?_⟩
  rintro _ σ M' ⟨x, y, rfl, rfl, hg, rfl⟩
  walk_at "on"
  refine br_dec (fun h => ?_) (fun h => ?_)
  · walk_at "on"
    have e : (x : Int).fmod (y : Int) = ((x % y : Nat) : Int) := by
      rw [Int.fmod_eq_emod_of_nonneg _ (by omega)]; rfl
    rw [e]
    refine ⟨x % y, Nat.mod_lt _ (by omega), _, _, .refl _, .refl _, y, x % y, rfl, rfl, ?_, rfl⟩
    rw [← hg, Nat.gcd_comm y, ← Nat.gcd_rec, Nat.gcd_comm]
  · walk_at "on"
    have e : y = 0 := by omega
    subst e
    rw [Nat.gcd_zero_right] at hg
    refine ⟨_, .refl _, ?_⟩
    rw [hg]; exact k

def sp__law_whole (K : Kf) : PSpec := fun vs M Q _ => ∃ (a : Int), vs = [.int a] ∧ Q (.bl true) M
theorem sp__law_whole_len {K : Kf} {vs : List PV} {M : PHp} {Q : PVK} {E : PXK} (h : sp__law_whole K vs M Q E) : vs.length = 1 := by
  obtain ⟨_, rfl, _⟩ := h; rfl

theorem ok__law_whole {P : Program} {w : World} {K : Kf} {mg : Str → Option Value} {base : Heap} (h0 : Here K mg "_law_whole" s__law_whole ["item"]) (T : Blt mg) (Su : Sure P base)  : Callee P w K mg base 34 "_law_whole" ["item"] (sp__law_whole K) := by
  refine ok_of h0 sc__law_whole (fun vs M Q E h => sp__law_whole_len h) (fun f cdv A outer s H E hr => ⟨_, (pssone (psret (pand (pcallB (cIsiK (K := K)) (by rfl) T.b_isinstance (by decide +kernel) (pacons (pv 0) (pacons (pbltn (p := .ty "int") (v := .ty "int") (by rfl) T.b_int (by decide +kernel) rfl (fun _ => .ty _)) panil))) (pone (pnot (pcallB (cIsiK (K := K)) (by rfl) T.b_isinstance (by decide +kernel) (pacons (pv 0) (pacons (pbltn (p := .ty "bool") (v := .ty "bool") (by rfl) T.b_bool (by decide +kernel) rfl (fun _ => .ty _)) panil)))))))), fun vs M Q Ep h => ?_⟩)
  obtain ⟨a, rfl, k⟩ := h
  walk_at "go"
  exact ⟨_, .refl _, k⟩

def sp_fraction (K : Kf) : PSpec := fun vs M Q _ => ∃ (t b : Int), vs = [.int t, .int b] ∧ b ≠ 0 ∧ ∀ n d, IsFr t b n d → Q (.tup [.int n, .int d]) M
theorem sp_fraction_len {K : Kf} {vs : List PV} {M : PHp} {Q : PVK} {E : PXK} (h : sp_fraction K vs M Q E) : vs.length = 2 := by
  obtain ⟨_, _, rfl, _⟩ := h; rfl

theorem ok_fraction {P : Program} {w : World} {K : Kf} {mg : Str → Option Value} {base : Heap} (h0 : Here K mg "fraction" s_fraction ["top", "bottom"]) (T : Blt mg) (Su : Sure P base)  : Callee P w K mg base 34 "fraction" ["top", "bottom"] (sp_fraction K) := by
  refine ok_of h0 sc_fraction (fun vs M Q E h => sp_fraction_len h) (fun f cdv A outer s H E hr => ⟨_, (psscons (psset 2 sc_fraction.nd (pcallF cGcd (by rfl) T.g_gcd (pacons (pv 0) (pacons (pv 1) panil))))
      (psscut (psif (ptcmp (opLt (by exact hr.units0)) (pv 1) pinT (nomark _)) (pssone (psset 2 sc_fraction.nd (pun unNeg (pv 2)))) pssnil)
      (pssone (psret (ptup (pacons (pop (opFdiv Su (by exact hr.mono (by decide))) (pv 0) (pv 2)) (pacons (pop (opFdiv Su (by exact hr.mono (by decide))) (pv 1) (pv 2)) panil))))))), fun vs M Q Ep h => ?_⟩)
  obtain ⟨t, b, rfl, hb, k⟩ := h
  walk_at "go"
  refine ⟨fun σ M1 => ∃ c, σ = [some (.int t), some (.int b), some (.int c)] ∧ M1 = M ∧ c ≠ 0 ∧ IsFr t b (t.fdiv c) (b.fdiv c), ?_, ?_⟩
  · have gp : 0 < Nat.gcd t.natAbs b.natAbs := Nat.gcd_pos_of_pos_right _ (by omega)
    walk_at "on"
    refine br_dec (fun h0 => ?_) (fun h0 => ?_)
    · walk_at "on"
      exact ⟨_, _, .refl _, .refl _, _, rfl, rfl, isFr_of hb (by omega) (by omega)⟩
    · walk_at "on"
      exact ⟨_, _, .refl _, .refl _, _, rfl, rfl, isFr_of hb (by omega) (by omega)⟩
  · rintro σ M1 ⟨c, rfl, rfl, hc, hf⟩
    walk_at "on"
    exact ⟨_, .refl _, k _ _ hf⟩

/-- sum and product of fractions: the bounds that they ask -/
def sp_plus (K : Kf) : PSpec := fun vs M Q _ => ∃ (a b c d : Int), vs = [.tup [.int a, .int b], .tup [.int c, .int d]] ∧ b ≠ 0 ∧ d ≠ 0 ∧ IntMulOk a d ∧ IntMulOk c b ∧ IntMulOk b d ∧ ∀ n m, IsFr (a * d + c * b) (b * d) n m → Q (.tup [.int n, .int m]) M
theorem sp_plus_len {K : Kf} {vs : List PV} {M : PHp} {Q : PVK} {E : PXK} (h : sp_plus K vs M Q E) : vs.length = 2 := by
  obtain ⟨_, _, _, _, rfl, _⟩ := h; rfl

theorem ok_plus {P : Program} {w : World} {K : Kf} {mg : Str → Option Value} {base : Heap} (h0 : Here K mg "plus" s_plus ["left", "right"]) (T : Blt mg) (Su : Sure P base) (C_fraction : Callee P w K mg base 34 "fraction" ["top", "bottom"] (sp_fraction K)) : Callee P w K mg base 35 "plus" ["left", "right"] (sp_plus K) := by
  refine ok_of h0 sc_plus (fun vs M Q E h => sp_plus_len h) (fun f cdv A outer s H E hr => ⟨_, (pssone (psret (pcall C_fraction (by exact hr.mono (by decide)) (pacons (pop opAdd (pop opMul (pixK (K := K) (pv 0) pinT) (pixK (K := K) (pv 1) pinT)) (pop opMul (pixK (K := K) (pv 1) pinT) (pixK (K := K) (pv 0) pinT))) (pacons (pop opMul (pixK (K := K) (pv 0) pinT) (pixK (K := K) (pv 1) pinT)) panil))))), fun vs M Q Ep h => ?_⟩)
  obtain ⟨a, b, c, d, rfl, hb, hd, o1, o2, o3, k⟩ := h
  walk_at "go"
  exact ⟨_, _, rfl, Int.mul_ne_zero hb hd, fun n m hf => ⟨_, .refl _, k _ _ hf⟩⟩

def sp_times (K : Kf) : PSpec := fun vs M Q _ => ∃ (a b c d : Int), vs = [.tup [.int a, .int b], .tup [.int c, .int d]] ∧ b ≠ 0 ∧ d ≠ 0 ∧ IntMulOk a c ∧ IntMulOk b d ∧ ∀ n m, IsFr (a * c) (b * d) n m → Q (.tup [.int n, .int m]) M
theorem sp_times_len {K : Kf} {vs : List PV} {M : PHp} {Q : PVK} {E : PXK} (h : sp_times K vs M Q E) : vs.length = 2 := by
  obtain ⟨_, _, _, _, rfl, _⟩ := h; rfl

theorem ok_times {P : Program} {w : World} {K : Kf} {mg : Str → Option Value} {base : Heap} (h0 : Here K mg "times" s_times ["left", "right"]) (T : Blt mg) (Su : Sure P base) (C_fraction : Callee P w K mg base 34 "fraction" ["top", "bottom"] (sp_fraction K)) : Callee P w K mg base 35 "times" ["left", "right"] (sp_times K) := by
  refine ok_of h0 sc_times (fun vs M Q E h => sp_times_len h) (fun f cdv A outer s H E hr => ⟨_, (pssone (psret (pcall C_fraction (by exact hr.mono (by decide)) (pacons (pop opMul (pixK (K := K) (pv 0) pinT) (pixK (K := K) (pv 1) pinT)) (pacons (pop opMul (pixK (K := K) (pv 0) pinT) (pixK (K := K) (pv 1) pinT)) panil))))), fun vs M Q Ep h => ?_⟩)
  obtain ⟨a, b, c, d, rfl, hb, hd, o1, o3, k⟩ := h
  walk_at "go"
  exact ⟨_, _, rfl, Int.mul_ne_zero hb hd, fun n m hf => ⟨_, .refl _, k _ _ hf⟩⟩

def sp_is_less (K : Kf) : PSpec := fun vs M Q _ => ∃ (a b c d : Int), vs = [.tup [.int a, .int b], .tup [.int c, .int d]] ∧ IntMulOk a d ∧ IntMulOk c b ∧ Q (.bl (decide (a * d < c * b))) M
theorem sp_is_less_len {K : Kf} {vs : List PV} {M : PHp} {Q : PVK} {E : PXK} (h : sp_is_less K vs M Q E) : vs.length = 2 := by
  obtain ⟨_, _, _, _, rfl, _⟩ := h; rfl

theorem ok_is_less {P : Program} {w : World} {K : Kf} {mg : Str → Option Value} {base : Heap} (h0 : Here K mg "is_less" s_is_less ["left", "right"]) (T : Blt mg) (Su : Sure P base)  : Callee P w K mg base 34 "is_less" ["left", "right"] (sp_is_less K) := by
  refine ok_of h0 sc_is_less (fun vs M Q E h => sp_is_less_len h) (fun f cdv A outer s H E hr => ⟨_, (pssone (psret (pcmp (opLt (by exact hr.units0)) (pop opMul (pixK (K := K) (pv 0) pinT) (pixK (K := K) (pv 1) pinT)) (pop opMul (pixK (K := K) (pv 1) pinT) (pixK (K := K) (pv 0) pinT)) (nomark _)))), fun vs M Q Ep h => ?_⟩)
  obtain ⟨a, b, c, d, rfl, o1, o3, k⟩ := h
  walk_at "go"
  exact ⟨_, .refl _, k⟩

/-- a number of any size -/
def sp__law_number (K : Kf) : PSpec := fun vs M Q _ => ∃ (a s : Addr) (ns : List Int), vs = [.ref a, .ref s] ∧ Env K M a s ns ∧ ∀ r M', intBits r ≤ 1048576 → Env K M' a s ns → Keep s M M' → Q (.int r) M'
theorem sp__law_number_len {K : Kf} {vs : List PV} {M : PHp} {Q : PVK} {E : PXK} (h : sp__law_number K vs M Q E) : vs.length = 2 := by
  obtain ⟨_, _, _, rfl, _⟩ := h; rfl
theorem bits_lt {x : Int} {m : Nat} (h : x.natAbs < 2 ^ m) : intBits x ≤ m := intBits_le_iff.mpr h

theorem ok__law_number {P : Program} {w : World} {K : Kf} {mg : Str → Option Value} {base : Heap} (h0 : Here K mg "_law_number" s__law_number ["script", "source"]) (T : Blt mg) (Su : Sure P base) (C__law_draw : Callee P w K mg base 34 "_law_draw" ["script", "source", "limit"] (sp__law_draw K)) : Callee P w K mg base 35 "_law_number" ["script", "source"] (sp__law_number K) := by
  refine ok_of h0 sc__law_number (fun vs M Q E h => sp__law_number_len h) (fun f cdv A outer s H E hr => ⟨_, (psscons (psset 2 sc__law_number.nd (pcall C__law_draw (by exact hr.mono (by decide)) (pacons (pv 0) (pacons (pv 1) (pacons pinT panil)))))
      (psscut (psif (ptcmp (opEqK (K := K) (by exact hr.units)) (pcall C__law_draw (by exact hr.mono (by decide)) (pacons (pv 0) (pacons (pv 1) (pacons pinT panil)))) pinT (nomark _)) (psscons (psset 3 sc__law_number.nd (pixK (K := K) (plst (pacons pinT (pacons (pop opPow pinT pinT) (pacons (pop opPow pinT pinT) (pacons (pop opPow pinT pinT) panil))))) (pcall C__law_draw (by exact hr.mono (by decide)) (pacons (pv 0) (pacons (pv 1) (pacons pinT panil))))))
      (pssone (psset 2 sc__law_number.nd (pop opAdd (pv 2) (pop opMul (pcall C__law_draw (by exact hr.mono (by decide)) (pacons (pv 0) (pacons (pv 1) (pacons (pop opPow pinT pinT) panil)))) (pv 3)))))) pssnil)
      (psscut (psif (PW.pt (pwand (ptcmp opGt (pcallB (cLenK (K := K)) (by rfl) T.b_len (by decide +kernel) (pacons (pv 0) panil)) pinT (nomark _)) (pwand1 (ptcmp (opEqK (K := K) (by exact hr.units)) (pcall C__law_draw (by exact hr.mono (by decide)) (pacons (pv 0) (pacons (pv 1) (pacons pinT panil)))) pinT (nomark _))))) (pssone (psset 2 sc__law_number.nd (pixK (K := K) (pv 0) (pcall C__law_draw (by exact hr.mono (by decide)) (pacons (pv 0) (pacons (pv 1) (pacons (pcallB (cLenK (K := K)) (by rfl) T.b_len (by decide +kernel) (pacons (pv 0) panil)) panil))))))) pssnil)
      (psscut (psif (ptcmp (opEqK (K := K) (by exact hr.units)) (pcall C__law_draw (by exact hr.mono (by decide)) (pacons (pv 0) (pacons (pv 1) (pacons pinT panil)))) pinT (nomark _)) (pssone (psset 2 sc__law_number.nd (pop opSub pinT (pv 2)))) pssnil)
      (pssone (psret (pv 2))))))), fun vs M Q Ep h => ?_⟩)
  obtain ⟨a, s, ns, rfl, e, k⟩ := h
  walk_at "go"
  refine ⟨a, s, ns, 13, rfl, e, by decide, by decide, fun n1 M1 hn0 hn1 e1 k1 => ?_⟩
  walk_at "on"
  refine ⟨fun σ M' => ∃ n, σ = [some (.ref a), some (.ref s), some (.int n), none] ∧ intBits n ≤ 1048576 ∧ Env K M' a s ns ∧ Keep s M M', ?_, ?_⟩
  · walk_at "on"
    refine ⟨a, s, ns, 3, rfl, e1, by decide, by decide, fun n2 M2 _ _ e2 k2 => ?_⟩
    walk_at "on"
    refine br_dec (fun h0 => ?_) (fun h0 => ?_)
    · walk_at "on"
      intro p hp
      walk_at "on"
      refine ⟨a, s, ns, 4, rfl, e2.new hp, by decide, by decide, fun n3 M3 h30 h31 e3 k3 => ?_⟩
      have hp3 : M3 p = _ := k3 p _ (e2.src_ne hp) updM_same
      rw [p9, p20, p31] at hp3
      obtain ⟨sz, hsz, hb⟩ : ∃ sz : Int, atI [PV.int 1, PV.int 1000000000, PV.int 100000000000000000000, PV.int 10000000000000000000000000000000] n3 = some (.int sz) ∧ intBits sz ≤ 128 := by
        obtain h | h | h | h : n3 = 0 ∨ n3 = 1 ∨ n3 = 2 ∨ n3 = 3 := by omega
        all_goals (subst h; exact ⟨_, rfl, by decide +kernel⟩)
      walk_at "on"
      refine ⟨a, s, ns, 10 ^ Int.toNat 9, rfl, e3, by decide, by decide +kernel, fun n4 M4 h40 h41 e4 k4 => ?_⟩
      rw [p9] at h41
      have b4 : intBits n4 ≤ 64 := bits_lt (by omega)
      walk_at "on"
      refine ⟨IntMulOk.of_left b4, ?_⟩
      walk_at "on"
      refine ⟨_, _, ?_, .refl _, n1 + n4 * sz, rfl, ?_, e4, by walk_at "keep"⟩
      · walk_at "subs"
      · exact Nat.le_trans (intBits_add_le (m := 4) (bits_lt (by omega)) (intBits_mul_le b4 hb)) (by decide)
    · walk_at "on"
      refine ⟨_, _, .refl _, .refl _, n1, rfl, Nat.le_trans (bits_lt (m := 4) (by omega)) (by decide), e2, by walk_at "keep"⟩
  · rintro σ M' ⟨n, rfl, hb, e5, k5⟩
    refine ⟨fun σ M' => ∃ n, σ = [some (.ref a), some (.ref s), some (.int n), none] ∧ intBits n ≤ 1048576 ∧ Env K M' a s ns ∧ Keep s M M', ?_, ?_⟩
    · walk_at "on"
      refine br_dec (fun h0 => ?_) (fun h0 => ?_)
      · walk_at "on"
        rw [List.length_map] at h0
        refine ⟨a, s, ns, 5, rfl, e5, by decide, by decide, fun n2 M2 _ _ e2 k2 => ?_⟩
        walk_at "on"
        refine br_dec (fun h1 => ?_) (fun h1 => ?_)
        · walk_at "on"
          have hl := e2.len
          refine ⟨a, s, ns, _, rfl, e2, by rw [List.length_map]; exact h0, by rw [List.length_map]; exact bits_lt (by omega), fun n3 M3 h30 h31 e3 k3 => ?_⟩
          rw [List.length_map] at h31
          obtain ⟨z, hz1, hz2, hz3⟩ := at_ints h30 h31
          walk_at "on"
          exact ⟨_, _, .refl _, .refl _, z, rfl, e3.bits z hz1, e3, by walk_at "keep"⟩
        · walk_at "on"
          exact ⟨_, _, .refl _, .refl _, n, rfl, hb, e2, by walk_at "keep"⟩
      · walk_at "on"
        exact ⟨_, _, .refl _, .refl _, n, rfl, hb, e5, by walk_at "keep"⟩
    · rintro σ M' ⟨n, rfl, hb, e5, k5⟩
      refine ⟨fun σ M' => ∃ n, σ = [some (.ref a), some (.ref s), some (.int n), none] ∧ intBits n ≤ 1048576 ∧ Env K M' a s ns ∧ Keep s M M', ?_, ?_⟩
      · walk_at "on"
        refine ⟨a, s, ns, 3, rfl, e5, by decide, by decide, fun n2 M2 _ _ e2 k2 => ?_⟩
        walk_at "on"
        refine br_dec (fun h1 => ?_) (fun h1 => ?_)
        · walk_at "on"
          exact ⟨_, _, .refl _, .refl _, 0 - n, rfl, intBits_le_of_natAbs (by omega) hb, e2, by walk_at "keep"⟩
        · walk_at "on"
          exact ⟨_, _, .refl _, .refl _, n, rfl, hb, e2, by walk_at "keep"⟩
      · rintro σ M' ⟨n, rfl, hb, e5, k5⟩
        walk_at "on"
        exact ⟨_, .refl _, k n _ hb e5 k5⟩

def sp__law_bottom (K : Kf) : PSpec := fun vs M Q _ => ∃ (a s : Addr) (ns : List Int), vs = [.ref a, .ref s] ∧ Env K M a s ns ∧ ∀ r M', r ≠ 0 → intBits r ≤ 1048576 → Env K M' a s ns → Keep s M M' → Q (.int r) M'
theorem sp__law_bottom_len {K : Kf} {vs : List PV} {M : PHp} {Q : PVK} {E : PXK} (h : sp__law_bottom K vs M Q E) : vs.length = 2 := by
  obtain ⟨_, _, _, rfl, _⟩ := h; rfl

theorem ok__law_bottom {P : Program} {w : World} {K : Kf} {mg : Str → Option Value} {base : Heap} (h0 : Here K mg "_law_bottom" s__law_bottom ["script", "source"]) (T : Blt mg) (Su : Sure P base) (C__law_number : Callee P w K mg base 35 "_law_number" ["script", "source"] (sp__law_number K)) : Callee P w K mg base 36 "_law_bottom" ["script", "source"] (sp__law_bottom K) := by
  refine ok_of h0 sc__law_bottom (fun vs M Q E h => sp__law_bottom_len h) (fun f cdv A outer s H E hr => ⟨_, (psscons (psset 2 sc__law_bottom.nd (pcall C__law_number (by exact hr.mono (by decide)) (pacons (pv 0) (pacons (pv 1) panil))))
      (psscons (psif (ptcmp (opEqK (K := K) (by exact hr.units)) (pv 2) pinT (nomark _)) (pssone (psset 2 sc__law_bottom.nd pinT)) pssnil)
      (pssone (psret (pv 2))))), fun vs M Q Ep h => ?_⟩)
  obtain ⟨a, s, ns, rfl, e, k⟩ := h
  walk_at "go"
  refine ⟨a, s, ns, rfl, e, fun r M1 hb e1 k1 => ?_⟩
  walk_at "on"
  refine br_dec (fun h1 => ?_) (fun h1 => ?_)
  · walk_at "on"
    exact ⟨_, .refl _, k _ _ (by decide) (by decide) e1 k1⟩
  · walk_at "on"
    exact ⟨_, .refl _, k _ _ h1 hb e1 k1⟩

/-- what is told is the fraction -/
def sp__law_is_fraction (K : Kf) : PSpec := fun vs M Q _ => ∃ (n d t b : Int), vs = [.tup [.int n, .int d], .int t, .int b] ∧ 0 < d ∧ Nat.gcd n.natAbs d.natAbs = 1 ∧ n * b = t * d ∧ IntMulOk n b ∧ IntMulOk t d ∧ Q (.bl true) M
theorem sp__law_is_fraction_len {K : Kf} {vs : List PV} {M : PHp} {Q : PVK} {E : PXK} (h : sp__law_is_fraction K vs M Q E) : vs.length = 3 := by
  obtain ⟨_, _, _, _, rfl, _⟩ := h; rfl

theorem ok__law_is_fraction {P : Program} {w : World} {K : Kf} {mg : Str → Option Value} {base : Heap} (h0 : Here K mg "_law_is_fraction" s__law_is_fraction ["told", "top", "bottom"]) (T : Blt mg) (Su : Sure P base) (C__law_gcd : Callee P w K mg base 34 "_law_gcd" ["a", "b"] (sp__law_gcd K)) (C__law_whole : Callee P w K mg base 34 "_law_whole" ["item"] (sp__law_whole K)) : Callee P w K mg base 35 "_law_is_fraction" ["told", "top", "bottom"] (sp__law_is_fraction K) := by
  refine ok_of h0 sc__law_is_fraction (fun vs M Q E h => sp__law_is_fraction_len h) (fun f cdv A outer s H E hr => ⟨_, (psscons (psif (PW.pt (pwor (ptnot (ptval (pcallB (cIsiK (K := K)) (by rfl) T.b_isinstance (by decide +kernel) (pacons (pv 0) (pacons (pbltn (p := .ty "tuple") (v := .ty "tuple") (by rfl) T.b_tuple (by decide +kernel) rfl (fun _ => .ty _)) panil))))) (pwor1 (ptcmp (opNeK (K := K) (by exact hr.units)) (pcallB (cLenK (K := K)) (by rfl) T.b_len (by decide +kernel) (pacons (pv 0) panil)) pinT (nomark _))))) (pssone (psret pbl)) pssnil)
      (psscons (psif (PW.pt (pwor (ptnot (ptval (pcall C__law_whole (by exact hr.mono (by decide)) (pacons (pixK (K := K) (pv 0) pinT) panil)))) (pwor (ptnot (ptval (pcall C__law_whole (by exact hr.mono (by decide)) (pacons (pixK (K := K) (pv 0) pinT) panil)))) (pwor1 (ptcmp (opLt (by exact hr.units0)) (pixK (K := K) (pv 0) pinT) pinT (nomark _)))))) (pssone (psret pbl)) pssnil)
      (pssone (psret (pand (pcmp (opEqK (K := K) (by exact hr.units)) (pcall C__law_gcd (by exact hr.mono (by decide)) (pacons (pcallB cAbs (by rfl) T.b_abs (by decide +kernel) (pacons (pixK (K := K) (pv 0) pinT) panil)) (pacons (pixK (K := K) (pv 0) pinT) panil))) pinT (nomark _)) (pone (pcmp (opEqK (K := K) (by exact hr.units)) (pop opMul (pixK (K := K) (pv 0) pinT) (pv 2)) (pop opMul (pv 1) (pixK (K := K) (pv 0) pinT)) (nomark _)))))))), fun vs M Q Ep h => ?_⟩)
  obtain ⟨n, d, t, b, rfl, hd, hg, hx, o1, o2, k⟩ := h
  walk_at "go"
  refine br_f rfl ?_
  walk_at "on"
  refine ⟨n, rfl, ?_⟩
  walk_at "on"
  refine ⟨d, rfl, ?_⟩
  walk_at "on"
  refine br_f (decide_eq_false (by omega)) ?_
  walk_at "on"
  refine ⟨n.natAbs, d.natAbs, by rw [Int.natAbs_of_nonneg (by omega : 0 ≤ d)], ?_⟩
  rw [hg]
  walk_at "on"
  refine br_t rfl ?_
  walk_at "on"
  refine ⟨_, .refl _, ?_⟩
  rw [decide_eq_true hx]
  exact k

/-- lowest terms, the law's own -/
def sp__law_lowest (K : Kf) : PSpec := sp_fraction K
theorem sp__law_lowest_len {K : Kf} {vs : List PV} {M : PHp} {Q : PVK} {E : PXK} (h : sp__law_lowest K vs M Q E) : vs.length = 2 := sp_fraction_len h

theorem ok__law_lowest {P : Program} {w : World} {K : Kf} {mg : Str → Option Value} {base : Heap} (h0 : Here K mg "_law_lowest" s__law_lowest ["top", "bottom"]) (T : Blt mg) (Su : Sure P base) (C__law_gcd : Callee P w K mg base 34 "_law_gcd" ["a", "b"] (sp__law_gcd K)) : Callee P w K mg base 35 "_law_lowest" ["top", "bottom"] (sp__law_lowest K) := by
  refine ok_of h0 sc__law_lowest (fun vs M Q E h => sp__law_lowest_len h) (fun f cdv A outer s H E hr => ⟨_, (psscons (psset 2 sc__law_lowest.nd (pcall C__law_gcd (by exact hr.mono (by decide)) (pacons (pcallB cAbs (by rfl) T.b_abs (by decide +kernel) (pacons (pv 0) panil)) (pacons (pcallB cAbs (by rfl) T.b_abs (by decide +kernel) (pacons (pv 1) panil)) panil))))
      (psscut (psif (ptcmp (opLt (by exact hr.units0)) (pv 1) pinT (nomark _)) (pssone (psset 2 sc__law_lowest.nd (pop opSub pinT (pv 2)))) pssnil)
      (pssone (psret (ptup (pacons (pop (opFdiv Su (by exact hr.mono (by decide))) (pv 0) (pv 2)) (pacons (pop (opFdiv Su (by exact hr.mono (by decide))) (pv 1) (pv 2)) panil))))))), fun vs M Q Ep h => ?_⟩)
  obtain ⟨t, b, rfl, hb, k⟩ := h
  walk_at "go"
  refine ⟨t.natAbs, b.natAbs, rfl, ?_⟩
  walk_at "on"
  refine ⟨fun σ M1 => ∃ c, σ = [some (.int t), some (.int b), some (.int c)] ∧ M1 = M ∧ c ≠ 0 ∧ IsFr t b (t.fdiv c) (b.fdiv c), ?_, ?_⟩
  · have gp : 0 < Nat.gcd t.natAbs b.natAbs := Nat.gcd_pos_of_pos_right _ (by omega)
    walk_at "on"
    refine br_dec (fun h0 => ?_) (fun h0 => ?_)
    · walk_at "on"
      exact ⟨_, _, .refl _, .refl _, _, rfl, rfl, isFr_of hb (by omega) (by omega)⟩
    · walk_at "on"
      exact ⟨_, _, .refl _, .refl _, _, rfl, rfl, isFr_of hb (by omega) (by omega)⟩
  · rintro σ M1 ⟨c, rfl, rfl, hc, hf⟩
    walk_at "on"
    exact ⟨_, .refl _, k _ _ hf⟩

def sp__law_less_told (K : Kf) : PSpec := fun vs M Q _ => ∃ (a b c d : Int), vs = [.tup [.int a, .int b], .tup [.int c, .int d]] ∧ IntMulOk a d ∧ IntMulOk c b ∧ Q (.bl true) M
theorem sp__law_less_told_len {K : Kf} {vs : List PV} {M : PHp} {Q : PVK} {E : PXK} (h : sp__law_less_told K vs M Q E) : vs.length = 2 := by
  obtain ⟨_, _, _, _, rfl, _⟩ := h; rfl

theorem ok__law_less_told {P : Program} {w : World} {K : Kf} {mg : Str → Option Value} {base : Heap} (h0 : Here K mg "_law_less_told" s__law_less_told ["left", "right"]) (T : Blt mg) (Su : Sure P base) (C_is_less : Callee P w K mg base 34 "is_less" ["left", "right"] (sp_is_less K)) : Callee P w K mg base 35 "_law_less_told" ["left", "right"] (sp__law_less_told K) := by
  refine ok_of h0 sc__law_less_told (fun vs M Q E h => sp__law_less_told_len h) (fun f cdv A outer s H E hr => ⟨_, (psscons (psset 2 sc__law_less_told.nd (pcall C_is_less (by exact hr.mono (by decide)) (pacons (pv 0) (pacons (pv 1) panil))))
      (pssone (psret (pand (pcallB (cIsiK (K := K)) (by rfl) T.b_isinstance (by decide +kernel) (pacons (pv 2) (pacons (pbltn (p := .ty "bool") (v := .ty "bool") (by rfl) T.b_bool (by decide +kernel) rfl (fun _ => .ty _)) panil))) (pone (pcmp (opEqK (K := K) (by exact hr.units)) (pv 2) (pcmp (opLt (by exact hr.units0)) (pop opMul (pixK (K := K) (pv 0) pinT) (pixK (K := K) (pv 1) pinT)) (pop opMul (pixK (K := K) (pv 1) pinT) (pixK (K := K) (pv 0) pinT)) (nomark _)) (nomark _))))))), fun vs M Q Ep h => ?_⟩)
  obtain ⟨a, b, c, d, rfl, o1, o3, k⟩ := h
  walk_at "go"
  refine ⟨a, b, c, d, rfl, o1, o3, ?_⟩
  walk_at "on"
  refine ⟨_, .refl _, ?_⟩
  rw [decide_eq_true (rfl : decide (a * d < c * b) = decide (a * d < c * b))]
  exact k

/-- two fractions, each at most z bits wide -/
structure Fr2 (a b : Int) (z : Nat) : Prop where
  pos : 0 < b
  ba : intBits a ≤ z
  bb : intBits b ≤ z
theorem mulok {a b : Int} {m n : Nat} (ha : intBits a ≤ m) (hb : intBits b ≤ n) (h : m + n ≤ 134217728 := by first | decide | omega) : IntMulOk a b := IntMulOk.of_le ha hb h
def sp__law_pair_told (K : Kf) : PSpec := fun vs M Q _ => ∃ (a b c d : Int) (z : Nat), vs = [.tup [.int a, .int b], .tup [.int c, .int d]] ∧ Fr2 a b z ∧ Fr2 c d z ∧ z ≤ 8388608 ∧ Q (.bl true) M
theorem sp__law_pair_told_len {K : Kf} {vs : List PV} {M : PHp} {Q : PVK} {E : PXK} (h : sp__law_pair_told K vs M Q E) : vs.length = 2 := by
  obtain ⟨_, _, _, _, _, rfl, _⟩ := h; rfl

theorem ok__law_pair_told {P : Program} {w : World} {K : Kf} {mg : Str → Option Value} {base : Heap} (h0 : Here K mg "_law_pair_told" s__law_pair_told ["left", "right"]) (T : Blt mg) (Su : Sure P base) (C__law_is_fraction : Callee P w K mg base 35 "_law_is_fraction" ["told", "top", "bottom"] (sp__law_is_fraction K)) (C__law_less_told : Callee P w K mg base 35 "_law_less_told" ["left", "right"] (sp__law_less_told K)) (C_plus : Callee P w K mg base 35 "plus" ["left", "right"] (sp_plus K)) (C_times : Callee P w K mg base 35 "times" ["left", "right"] (sp_times K)) : Callee P w K mg base 36 "_law_pair_told" ["left", "right"] (sp__law_pair_told K) := by
  refine ok_of h0 sc__law_pair_told (fun vs M Q E h => sp__law_pair_told_len h) (fun f cdv A outer s H E hr => ⟨_, (psscons (psif (ptnot (ptval (pcall C__law_is_fraction (by exact hr.mono (by decide)) (pacons (pcall C_plus (by exact hr.mono (by decide)) (pacons (pv 0) (pacons (pv 1) panil))) (pacons (pop opAdd (pop opMul (pixK (K := K) (pv 0) pinT) (pixK (K := K) (pv 1) pinT)) (pop opMul (pixK (K := K) (pv 1) pinT) (pixK (K := K) (pv 0) pinT))) (pacons (pop opMul (pixK (K := K) (pv 0) pinT) (pixK (K := K) (pv 1) pinT)) panil)))))) (pssone (psret pbl)) pssnil)
      (psscons (psif (ptnot (ptval (pcall C__law_is_fraction (by exact hr.mono (by decide)) (pacons (pcall C_times (by exact hr.mono (by decide)) (pacons (pv 0) (pacons (pv 1) panil))) (pacons (pop opMul (pixK (K := K) (pv 0) pinT) (pixK (K := K) (pv 1) pinT)) (pacons (pop opMul (pixK (K := K) (pv 0) pinT) (pixK (K := K) (pv 1) pinT)) panil)))))) (pssone (psret pbl)) pssnil)
      (pssone (psret (pand (pcall C__law_less_told (by exact hr.mono (by decide)) (pacons (pv 0) (pacons (pv 1) panil))) (pone (pcall C__law_less_told (by exact hr.mono (by decide)) (pacons (pv 1) (pacons (pv 0) panil))))))))), fun vs M Q Ep h => ?_⟩)
  obtain ⟨a, b, c, d, z, rfl, ⟨h1, h2, h3⟩, ⟨h4, h5, h6⟩, hz, k⟩ := h
  have o1 := mulok h2 h6
  have o2 := mulok h5 h3
  have o3 := mulok h3 h6
  have o4 := mulok h2 h5
  have s1 := intBits_add_le (intBits_mul_le h2 h6) (intBits_mul_le h5 h3)
  have s2 := intBits_mul_le h3 h6
  have s3 := intBits_mul_le h2 h5
  walk_at "go"
  refine ⟨a, b, c, d, rfl, by omega, by omega, o1, o2, o3, fun n m hf => ?_⟩
  walk_at "on"
  refine ⟨n, m, _, _, rfl, hf.pos, hf.low, hf.eq, mulok (hf.bn s1) s2, mulok s1 (hf.bd s2), ?_⟩
  walk_at "on"
  refine ⟨a, b, c, d, rfl, by omega, by omega, o4, o3, fun n2 m2 hf2 => ?_⟩
  walk_at "on"
  refine ⟨n2, m2, _, _, rfl, hf2.pos, hf2.low, hf2.eq, mulok (hf2.bn s3) s2, mulok s3 (hf2.bd s2), ?_⟩
  walk_at "on"
  refine ⟨a, b, c, d, rfl, o1, o2, ?_⟩
  walk_at "on"
  refine ⟨c, d, a, b, rfl, o2, o1, ?_⟩
  walk_at "on"
  exact ⟨_, .refl _, k⟩

def sp__law_fraction_told (K : Kf) : PSpec := fun vs M Q _ => ∃ (a s : Addr) (ns : List Int), vs = [.ref a, .ref s] ∧ Env K M a s ns ∧ ∀ M', Env K M' a s ns → Keep s M M' → Q (.bl true) M'
theorem sp__law_fraction_told_len {K : Kf} {vs : List PV} {M : PHp} {Q : PVK} {E : PXK} (h : sp__law_fraction_told K vs M Q E) : vs.length = 2 := by
  obtain ⟨_, _, _, rfl, _⟩ := h; rfl

theorem ok__law_fraction_told {P : Program} {w : World} {K : Kf} {mg : Str → Option Value} {base : Heap} (h0 : Here K mg "_law_fraction_told" s__law_fraction_told ["script", "source"]) (T : Blt mg) (Su : Sure P base) (C__law_bottom : Callee P w K mg base 36 "_law_bottom" ["script", "source"] (sp__law_bottom K)) (C__law_is_fraction : Callee P w K mg base 35 "_law_is_fraction" ["told", "top", "bottom"] (sp__law_is_fraction K)) (C__law_number : Callee P w K mg base 35 "_law_number" ["script", "source"] (sp__law_number K)) (C_fraction : Callee P w K mg base 34 "fraction" ["top", "bottom"] (sp_fraction K)) : Callee P w K mg base 37 "_law_fraction_told" ["script", "source"] (sp__law_fraction_told K) := by
  refine ok_of h0 sc__law_fraction_told (fun vs M Q E h => sp__law_fraction_told_len h) (fun f cdv A outer s H E hr => ⟨_, (psscons (psset 2 sc__law_fraction_told.nd (pcall C__law_number (by exact hr.mono (by decide)) (pacons (pv 0) (pacons (pv 1) panil))))
      (psscons (psset 3 sc__law_fraction_told.nd (pcall C__law_bottom (by exact hr.mono (by decide)) (pacons (pv 0) (pacons (pv 1) panil))))
      (psscons (psif (ptnot (ptval (pcall C__law_is_fraction (by exact hr.mono (by decide)) (pacons (pcall C_fraction (by exact hr.mono (by decide)) (pacons (pv 2) (pacons (pv 3) panil))) (pacons (pv 2) (pacons (pv 3) panil)))))) (pssone (psret pbl)) pssnil)
      (psscons (psset 4 sc__law_fraction_told.nd (pcall C__law_bottom (by exact hr.mono (by decide)) (pacons (pv 0) (pacons (pv 1) panil))))
      (psscons (psif (ptnot (ptval (pcall C__law_is_fraction (by exact hr.mono (by decide)) (pacons (pcall C_fraction (by exact hr.mono (by decide)) (pacons (pop opMul (pv 2) (pv 4)) (pacons (pop opMul (pv 3) (pv 4)) panil))) (pacons (pv 2) (pacons (pv 3) panil)))))) (pssone (psret pbl)) pssnil)
      (pssone (psret (pcall C__law_is_fraction (by exact hr.mono (by decide)) (pacons (pcall C_fraction (by exact hr.mono (by decide)) (pacons pinT (pacons (pv 3) panil))) (pacons pinT (pacons pinT panil))))))))))), fun vs M Q Ep h => ?_⟩)
  obtain ⟨a, s, ns, rfl, e, k⟩ := h
  walk_at "go"
  refine ⟨a, s, ns, rfl, e, fun t M1 ht e1 k1 => ?_⟩
  walk_at "on"
  refine ⟨a, s, ns, rfl, e1, fun b M2 hb0 hb e2 k2 => ?_⟩
  walk_at "on"
  refine ⟨t, b, rfl, hb0, fun n d hf => ?_⟩
  walk_at "on"
  refine ⟨n, d, t, b, rfl, hf.pos, hf.low, hf.eq, mulok (hf.bn ht) hb, mulok ht (hf.bd hb), ?_⟩
  walk_at "on"
  refine ⟨a, s, ns, rfl, e2, fun f M3 hf0 hfb e3 k3 => ?_⟩
  have o1 := mulok ht hfb
  have o2 := mulok hb hfb
  walk_at "on"
  refine ⟨t * f, b * f, rfl, Int.mul_ne_zero hb0 hf0, fun n2 d2 hf2 => ?_⟩
  walk_at "on"
  have s1 := intBits_mul_le ht hfb
  have s2 := intBits_mul_le hb hfb
  have hx : n2 * b = t * d2 := by
    have h := hf2.eq
    have h2 : f * (n2 * b) = f * (t * d2) := by
      grind
    exact Int.eq_of_mul_eq_mul_left hf0 h2
  refine ⟨n2, d2, t, b, rfl, hf2.pos, hf2.low, hx, mulok (hf2.bn s1) hb, mulok ht (hf2.bd s2), ?_⟩
  walk_at "on"
  refine ⟨0, b, rfl, hb0, fun n3 d3 hf3 => ?_⟩
  walk_at "on"
  have z3 : n3 = 0 := by have := hf3.ln; omega
  subst z3
  refine ⟨0, d3, 0, 1, rfl, hf3.pos, hf3.low, by simp, IntMulOk.of_left (by decide), IntMulOk.of_left (by decide), ?_⟩
  walk_at "on"
  exact ⟨_, .refl _, k _ e3 (by walk_at "keep")⟩

theorem frac_one {f0 f1 s0 s1 t0 t1 p q n d : Int} (h1 : IsFr (s0 * t1 + t0 * s1) (s1 * t1) p q) (h2 : IsFr (f0 * p) (f1 * q) n d) : n * (f1 * s1 * t1) = f0 * (s0 * t1 + t0 * s1) * d := by
  have e1 := h1.eq; have e2 := h2.eq; have q0 := h1.pos
  have : q * (n * (f1 * s1 * t1)) = q * (f0 * (s0 * t1 + t0 * s1) * d) := by grind
  exact Int.eq_of_mul_eq_mul_left (by omega) this
theorem frac_two {f0 f1 s0 s1 t0 t1 a b c e n d : Int} (h1 : IsFr (f0 * s0) (f1 * s1) a b) (h2 : IsFr (f0 * t0) (f1 * t1) c e) (h3 : IsFr (a * e + c * b) (b * e) n d) : n * (f1 * s1 * t1) = f0 * (s0 * t1 + t0 * s1) * d := by
  have e1 := h1.eq; have e2 := h2.eq; have e3 := h3.eq; have b0 := h1.pos; have e0 := h2.pos
  have : (b * e) * (n * (f1 * s1 * t1)) = (b * e) * (f0 * (s0 * t1 + t0 * s1) * d) := by grind
  exact Int.eq_of_mul_eq_mul_left (Int.mul_ne_zero (by omega) (by omega)) this
abbrev sp__law_fractions_told (K : Kf) : PSpec := sp__law_fraction_told K
theorem sp__law_fractions_told_len {K : Kf} {vs : List PV} {M : PHp} {Q : PVK} {E : PXK} (h : sp__law_fractions_told K vs M Q E) : vs.length = 2 := sp__law_fraction_told_len h

theorem ok__law_fractions_told {P : Program} {w : World} {K : Kf} {mg : Str → Option Value} {base : Heap} (h0 : Here K mg "_law_fractions_told" s__law_fractions_told ["script", "source"]) (T : Blt mg) (Su : Sure P base) (C__law_bottom : Callee P w K mg base 36 "_law_bottom" ["script", "source"] (sp__law_bottom K)) (C__law_draw : Callee P w K mg base 34 "_law_draw" ["script", "source", "limit"] (sp__law_draw K)) (C__law_is_fraction : Callee P w K mg base 35 "_law_is_fraction" ["told", "top", "bottom"] (sp__law_is_fraction K)) (C__law_less_told : Callee P w K mg base 35 "_law_less_told" ["left", "right"] (sp__law_less_told K)) (C__law_lowest : Callee P w K mg base 35 "_law_lowest" ["top", "bottom"] (sp__law_lowest K)) (C__law_number : Callee P w K mg base 35 "_law_number" ["script", "source"] (sp__law_number K)) (C__law_pair_told : Callee P w K mg base 36 "_law_pair_told" ["left", "right"] (sp__law_pair_told K)) (C_plus : Callee P w K mg base 35 "plus" ["left", "right"] (sp_plus K)) (C_times : Callee P w K mg base 35 "times" ["left", "right"] (sp_times K)) : Callee P w K mg base 37 "_law_fractions_told" ["script", "source"] (sp__law_fractions_told K) := by
  refine ok_of h0 sc__law_fractions_told (fun vs M Q E h => sp__law_fractions_told_len h) (fun f cdv A outer s H E hr => ⟨_, (psscons (psset 2 sc__law_fractions_told.nd (pcall C__law_lowest (by exact hr.mono (by decide)) (pacons (pcall C__law_number (by exact hr.mono (by decide)) (pacons (pv 0) (pacons (pv 1) panil))) (pacons (pcall C__law_bottom (by exact hr.mono (by decide)) (pacons (pv 0) (pacons (pv 1) panil))) panil))))
      (psscons (psset 3 sc__law_fractions_told.nd (pcall C__law_lowest (by exact hr.mono (by decide)) (pacons (pcall C__law_number (by exact hr.mono (by decide)) (pacons (pv 0) (pacons (pv 1) panil))) (pacons (pcall C__law_bottom (by exact hr.mono (by decide)) (pacons (pv 0) (pacons (pv 1) panil))) panil))))
      (psscons (psset 4 sc__law_fractions_told.nd (pcall C__law_draw (by exact hr.mono (by decide)) (pacons (pv 0) (pacons (pv 1) (pacons pinT panil)))))
      (psscons (psset 5 sc__law_fractions_told.nd (pv 2))
      (psscut (psif (ptcmp (opEqK (K := K) (by exact hr.units)) (pv 4) pinT (nomark _)) (pssone (psset 5 sc__law_fractions_told.nd (pcall C__law_lowest (by exact hr.mono (by decide)) (pacons (pop opAdd (pop opMul (pixK (K := K) (pv 2) pinT) pinT) pinT) (pacons (pop opMul (pixK (K := K) (pv 2) pinT) pinT) panil))))) (pssone (psif (ptcmp opGt (pv 4) pinT (nomark _)) (pssone (psset 5 sc__law_fractions_told.nd (pcall C__law_lowest (by exact hr.mono (by decide)) (pacons (pcall C__law_number (by exact hr.mono (by decide)) (pacons (pv 0) (pacons (pv 1) panil))) (pacons (pcall C__law_bottom (by exact hr.mono (by decide)) (pacons (pv 0) (pacons (pv 1) panil))) panil))))) pssnil)))
      (psscons (psif (PW.pt (pwor (ptnot (ptval (pcall C__law_pair_told (by exact hr.mono (by decide)) (pacons (pv 2) (pacons (pv 3) panil))))) (pwor (ptnot (ptval (pcall C__law_pair_told (by exact hr.mono (by decide)) (pacons (pv 3) (pacons (pv 5) panil))))) (pwor1 (ptnot (ptval (pcall C__law_pair_told (by exact hr.mono (by decide)) (pacons (pv 2) (pacons (pv 5) panil))))))))) (pssone (psret pbl)) pssnil)
      (psscons (psif (PW.pt (pwor (ptnot (ptval (pcall C__law_less_told (by exact hr.mono (by decide)) (pacons (pv 3) (pacons (pv 3) panil))))) (pwor (ptnot (ptval (pcall C__law_pair_told (by exact hr.mono (by decide)) (pacons (pv 5) (pacons (ptup (pacons pinT (pacons pinT panil))) panil))))) (pwor1 (ptnot (ptval (pcall C__law_pair_told (by exact hr.mono (by decide)) (pacons (ptup (pacons pinT (pacons pinT panil))) (pacons (pv 5) panil))))))))) (pssone (psret pbl)) pssnil)
      (psscons (psset 6 sc__law_fractions_told.nd (pcall C_times (by exact hr.mono (by decide)) (pacons (pv 2) (pacons (pcall C_plus (by exact hr.mono (by decide)) (pacons (pv 3) (pacons (pv 5) panil))) panil))))
      (psscons (psset 7 sc__law_fractions_told.nd (pcall C_plus (by exact hr.mono (by decide)) (pacons (pcall C_times (by exact hr.mono (by decide)) (pacons (pv 2) (pacons (pv 3) panil))) (pacons (pcall C_times (by exact hr.mono (by decide)) (pacons (pv 2) (pacons (pv 5) panil))) panil))))
      (psscons (psset 8 sc__law_fractions_told.nd (pop opMul (pixK (K := K) (pv 2) pinT) (pop opAdd (pop opMul (pixK (K := K) (pv 3) pinT) (pixK (K := K) (pv 5) pinT)) (pop opMul (pixK (K := K) (pv 5) pinT) (pixK (K := K) (pv 3) pinT)))))
      (psscons (psset 9 sc__law_fractions_told.nd (pop opMul (pop opMul (pixK (K := K) (pv 2) pinT) (pixK (K := K) (pv 3) pinT)) (pixK (K := K) (pv 5) pinT)))
      (pssone (psret (pand (pcall C__law_is_fraction (by exact hr.mono (by decide)) (pacons (pv 6) (pacons (pv 8) (pacons (pv 9) panil)))) (pone (pcall C__law_is_fraction (by exact hr.mono (by decide)) (pacons (pv 7) (pacons (pv 8) (pacons (pv 9) panil))))))))))))))))))), fun vs M Q Ep h => ?_⟩)
  obtain ⟨a, s, ns, rfl, e, k⟩ := h
  walk_at "go"
  refine ⟨a, s, ns, rfl, e, fun n1 M1 b1 e1 k1 => ?_⟩
  walk_at "on"
  refine ⟨a, s, ns, rfl, e1, fun d1 M2 z1 c1 e2 k2 => ?_⟩
  walk_at "on"
  refine ⟨n1, d1, rfl, z1, fun f0 f1 hf => ?_⟩
  walk_at "on"
  refine ⟨a, s, ns, rfl, e2, fun n2 M3 b2 e3 k3 => ?_⟩
  walk_at "on"
  refine ⟨a, s, ns, rfl, e3, fun d2 M4 z2 c2 e4 k4 => ?_⟩
  walk_at "on"
  refine ⟨n2, d2, rfl, z2, fun s0 s1 hs => ?_⟩
  walk_at "on"
  refine ⟨a, s, ns, 4, rfl, e4, by decide, by decide, fun kd M5 hk0 hk1 e5 k5 => ?_⟩
  walk_at "on"
  have kk : Keep s M M5 := by walk_at "keep"
  have F : Fr2 f0 f1 1048584 := ⟨hf.pos, Nat.le_trans (hf.bn b1) (by decide), Nat.le_trans (hf.bd c1) (by decide)⟩
  have S : Fr2 s0 s1 1048584 := ⟨hs.pos, Nat.le_trans (hs.bn b2) (by decide), Nat.le_trans (hs.bd c2) (by decide)⟩
  refine ⟨fun σ M' => ∃ t0 t1, σ = [some (.ref a), some (.ref s), some (.tup [.int f0, .int f1]), some (.tup [.int s0, .int s1]), none, some (.tup [.int t0, .int t1]), none, none, none, none] ∧ Fr2 t0 t1 1048584 ∧ Env K M' a s ns ∧ Keep s M M', ?_, ?_⟩
  · walk_at "on"
    refine br_dec (fun h0 => ?_) (fun h0 => ?_)
    · walk_at "on"
      refine ⟨f0 * 7 + 1, f1 * 7, rfl, by have := hf.pos; omega, fun t0 t1 ht => ?_⟩
      walk_at "on"
      have y1 : intBits (f0 * 7 + 1) ≤ 1048584 := Nat.le_trans (intBits_add_le (intBits_mul_le (hf.bn b1) (n := 3) (by decide)) (n := 1) (by decide)) (by decide)
      have y2 : intBits (f1 * 7) ≤ 1048584 := Nat.le_trans (intBits_mul_le (hf.bd c1) (n := 3) (by decide)) (by decide)
      refine ⟨_, _, ?_, .refl _, t0, t1, rfl, ⟨ht.pos, ht.bn y1, ht.bd y2⟩, e5, kk⟩
      walk_at "subs"
    · walk_at "on"
      refine br_dec (fun h1 => ?_) (fun h1 => ?_)
      · walk_at "on"
        refine ⟨a, s, ns, rfl, e5, fun n3 M6 b3 e6 k6 => ?_⟩
        walk_at "on"
        refine ⟨a, s, ns, rfl, e6, fun d3 M7 z3 c3 e7 k7 => ?_⟩
        walk_at "on"
        refine ⟨n3, d3, rfl, z3, fun t0 t1 ht => ?_⟩
        walk_at "on"
        refine ⟨_, _, ?_, .refl _, t0, t1, rfl, ⟨ht.pos, Nat.le_trans (ht.bn b3) (by decide), Nat.le_trans (ht.bd c3) (by decide)⟩, e7, by walk_at "keep"⟩
        walk_at "subs"
      · walk_at "on"
        refine ⟨_, _, ?_, .refl _, f0, f1, rfl, F, e5, kk⟩
        walk_at "subs"
  · rintro σ M' ⟨t0, t1, rfl, T3, e6, k6⟩
    have U : Fr2 0 1 1048584 := ⟨by decide, by decide, by decide⟩
    have V1 : Fr2 1 1 1048584 := ⟨by decide, by decide, by decide⟩
    obtain ⟨pF, F1, F2⟩ := F
    obtain ⟨pS, S1, S2⟩ := S
    have oSS := mulok S1 S2
    obtain ⟨pT, T1, T2⟩ := T3
    walk_at "on"
    refine ⟨f0, f1, s0, s1, _, rfl, ⟨pF, F1, F2⟩, ⟨pS, S1, S2⟩, by decide, ?_⟩
    walk_at "on"
    refine ⟨s0, s1, t0, t1, _, rfl, ⟨pS, S1, S2⟩, ⟨pT, T1, T2⟩, by decide, ?_⟩
    walk_at "on"
    refine ⟨f0, f1, t0, t1, _, rfl, ⟨pF, F1, F2⟩, ⟨pT, T1, T2⟩, by decide, ?_⟩
    walk_at "on"
    refine ⟨s0, s1, s0, s1, rfl, oSS, oSS, ?_⟩
    walk_at "on"
    refine ⟨t0, t1, 0, 1, _, rfl, ⟨pT, T1, T2⟩, U, by decide, ?_⟩
    walk_at "on"
    refine ⟨1, 1, t0, t1, _, rfl, V1, ⟨pT, T1, T2⟩, by decide, ?_⟩
    walk_at "on"
    have b_st := intBits_add_le (intBits_mul_le S1 T2) (intBits_mul_le T1 S2)
    have b_11 := intBits_mul_le S2 T2
    refine ⟨s0, s1, t0, t1, rfl, by omega, by omega, mulok S1 T2, mulok T1 S2, mulok S2 T2, fun p q hpq => ?_⟩
    have bp := hpq.bn b_st
    have bq := hpq.bd b_11
    walk_at "on"
    refine ⟨f0, f1, p, q, rfl, by omega, by have := hpq.pos; omega, mulok F1 bp, mulok F2 bq, fun n d hnd => ?_⟩
    have bn := hnd.bn (intBits_mul_le F1 bp)
    have bd := hnd.bd (intBits_mul_le F2 bq)
    walk_at "on"
    have b_fs0 := intBits_mul_le F1 S1
    have b_fs1 := intBits_mul_le F2 S2
    have b_ft0 := intBits_mul_le F1 T1
    have b_ft1 := intBits_mul_le F2 T2
    refine ⟨f0, f1, s0, s1, rfl, by omega, by omega, mulok F1 S1, mulok F2 S2, fun x1 x2 hx => ?_⟩
    have bx1 := hx.bn b_fs0
    have bx2 := hx.bd b_fs1
    walk_at "on"
    refine ⟨f0, f1, t0, t1, rfl, by omega, by omega, mulok F1 T1, mulok F2 T2, fun y1 y2 hy => ?_⟩
    have by1 := hy.bn b_ft0
    have by2 := hy.bd b_ft1
    walk_at "on"
    refine ⟨x1, x2, y1, y2, rfl, by have := hx.pos; omega, by have := hy.pos; omega, mulok bx1 by2, mulok by1 bx2, mulok bx2 by2, fun m1 m2 hm => ?_⟩
    have bm1 := hm.bn (intBits_add_le (intBits_mul_le bx1 by2) (intBits_mul_le by1 bx2))
    have bm2 := hm.bd (intBits_mul_le bx2 by2)
    walk_at "on"
    refine ⟨mulok S1 T2, ?_⟩
    walk_at "on"
    refine ⟨mulok T1 S2, ?_⟩
    walk_at "on"
    refine ⟨mulok F1 b_st, ?_⟩
    walk_at "on"
    refine ⟨mulok F2 S2, ?_⟩
    walk_at "on"
    refine ⟨mulok b_fs1 T2, ?_⟩
    walk_at "on"
    have btop := intBits_mul_le F1 b_st
    have bbot := intBits_mul_le b_fs1 T2
    refine ⟨n, d, _, _, rfl, hnd.pos, hnd.low, frac_one hpq hnd, mulok bn bbot, mulok btop bd, ?_⟩
    walk_at "on"
    refine ⟨m1, m2, _, _, rfl, hm.pos, hm.low, frac_two hx hy hm, mulok bm1 bbot, mulok btop bm2, ?_⟩
    exact ⟨_, .refl _, k _ e6 k6⟩

/-- the greatest common divisor of the numbers -/
def gl (ws : List Int) : Nat := ws.foldl (fun g w => Nat.gcd g w.natAbs) 0
theorem gl_from (ws : List Int) : ∀ g : Nat, ws.foldl (fun g w => Nat.gcd g w.natAbs) g = Nat.gcd g (gl ws) := by
  induction ws with
  | nil => intro g; simp [gl]
  | cons w r ih =>
    intro g
    have h : gl (w :: r) = Nat.gcd (Nat.gcd 0 w.natAbs) (gl r) := by
      show List.foldl _ (Nat.gcd 0 w.natAbs) r = _
      rw [ih]
    rw [List.foldl_cons, ih, h, Nat.gcd_zero_left, Nat.gcd_assoc]
theorem gl_cons (w : Int) (r : List Int) : gl (w :: r) = Nat.gcd w.natAbs (gl r) := by
  show List.foldl _ (Nat.gcd 0 w.natAbs) r = _
  rw [gl_from, Nat.gcd_zero_left]
theorem gl_snoc (r : List Int) (w : Int) : gl (r ++ [w]) = Nat.gcd (gl r) w.natAbs := by
  unfold gl
  rw [List.foldl_append]; rfl
theorem gl_dvd {ws : List Int} : ∀ w ∈ ws, ((gl ws : Nat) : Int) ∣ w := by
  induction ws with
  | nil => intro w h; cases h
  | cons x r ih =>
    intro w h
    rw [gl_cons]
    rcases List.mem_cons.mp h with rfl | h
    · exact Int.natAbs_dvd_natAbs.mp (by rw [Int.natAbs_natCast]; exact Nat.gcd_dvd_left _ _)
    · exact Int.dvd_trans (Int.natAbs_dvd_natAbs.mp (by rw [Int.natAbs_natCast, Int.natAbs_natCast]; exact Nat.gcd_dvd_right _ _)) (ih w h)
theorem gl_mul (g : Int) (ws : List Int) : gl (ws.map (g * ·)) = g.natAbs * gl ws := by
  induction ws with
  | nil => simp [gl]
  | cons x r ih => rw [List.map_cons, gl_cons, gl_cons, ih, Int.natAbs_mul, Nat.gcd_mul_left]
theorem gl_zero {ws : List Int} (h : gl ws = 0) : ∀ w ∈ ws, w = 0 := fun w hw => by
  have := gl_dvd w hw
  rw [h] at this
  exact Int.zero_dvd.mp this
/-- the weights divided by their greatest common divisor -/
inductive IsRed (ws rs : List Int) : Prop
  | zero (h : ∀ w ∈ ws, w = 0) (e : rs = ws)
  | pos (g : Int) (hg : 0 < g) (e : ws = rs.map (g * ·)) (h : gl rs = 1)
theorem isRed_of {ws : List Int} (h : gl ws ≠ 0) : IsRed ws (ws.map fun w => w.fdiv (gl ws : Nat)) := by
  have g0 : ((gl ws : Nat) : Int) ≠ 0 := by omega
  have e : ws = (ws.map fun w => w.fdiv (gl ws : Nat)).map (((gl ws : Nat) : Int) * ·) := by
    rw [List.map_map]
    conv => lhs; rw [← List.map_id ws]
    refine List.map_congr_left fun w hw => ?_
    obtain ⟨x, hx⟩ := gl_dvd w hw
    show w = ((gl ws : Nat) : Int) * w.fdiv _
    conv => rhs; rw [hx, fdiv_mul g0]
    exact hx
  refine .pos (gl ws : Nat) (by omega) e ?_
  have h2 := congrArg gl e
  rw [gl_mul, Int.natAbs_natCast] at h2
  have h3 : gl ws * 1 = gl ws * gl (ws.map fun w => w.fdiv (gl ws : Nat)) := by rw [Nat.mul_one]; exact h2
  exact (Nat.eq_of_mul_eq_mul_left (by omega) h3).symm
theorem IsRed.len {ws rs : List Int} (h : IsRed ws rs) : rs.length = ws.length := by
  cases h with
  | zero h e => rw [e]
  | pos g hg e h => rw [e, List.length_map]
/-- a tuple or a list -/
def SeqV (K : Kf) (M : PHp) (x : PV) (l : List PV) : Prop := x = .tup l ∨ ∃ a, x = .ref a ∧ rdL K M a l
def sp_reduced (K : Kf) : PSpec := fun vs M Q _ => ∃ (x : PV) (ws : List Int), vs = [x] ∧ SeqV K M x (ws.map PV.int) ∧ ws.length ≤ 1000 ∧ ∀ rs, IsRed ws rs → Q (.tup (rs.map PV.int)) M
theorem sp_reduced_len {K : Kf} {vs : List PV} {M : PHp} {Q : PVK} {E : PXK} (h : sp_reduced K vs M Q E) : vs.length = 1 := by
  obtain ⟨_, _, rfl, _⟩ := h; rfl
theorem take_succ' {α : Type} {l : List α} {i : Nat} {x : α} (h : l[i]? = some x) : l.take (i + 1) = l.take i ++ [x] := by
  rw [List.take_add_one, h]; rfl
theorem int_at {ns : List Int} {i : Nat} {p : PV} (h : (ns.map PV.int)[i]? = some p) : ∃ z, ns[i]? = some z ∧ p = .int z := by
  rw [List.getElem?_map] at h
  cases e : ns[i]? with
  | none => rw [e] at h; cases h
  | some z => rw [e] at h; exact ⟨z, rfl, (Option.some.inj h).symm⟩
theorem sz_of {n m : Nat} (h : n ≤ m) (hm : m ≤ 1000000) : n < sizeLine := by rw [sizeLine_eq]; omega
theorem lt_of_get {α : Type} {l : List α} {i : Nat} {x : α} (h : l[i]? = some x) : i < l.length := (List.getElem?_eq_some_iff.mp h).1

theorem ok_reduced {P : Program} {w : World} {K : Kf} {mg : Str → Option Value} {base : Heap} (h0 : Here K mg "reduced" s_reduced ["weights"]) (T : Blt mg) (Su : Sure P base)  : Callee P w K mg base 34 "reduced" ["weights"] (sp_reduced K) := by
  refine ok_of h0 sc_reduced (fun vs M Q E h => sp_reduced_len h) (fun f cdv A outer s H E hr => ⟨_, (psscons (psset 1 sc_reduced.nd pinT)
      (psscut (psfor PassesOwn.never rfl (piseqK (K := K) (pv 0)) (pgname (i := 2) sc_reduced.nd) (pssone (psset 1 sc_reduced.nd (pcallF cGcd (by rfl) T.g_gcd (pacons (pv 1) (pacons (pv 2) panil))))))
      (psscons (psif (ptcmp (opEqK (K := K) (by exact hr.units)) (pv 1) pinT (nomark _)) (pssone (psret (pcallTy (cTupleK (K := K)) (by rfl) T.b_tuple (by decide +kernel) (pacons (pv 0) panil)))) pssnil)
      (pssone (psret (pcallTy (cTupleK (K := K)) (by rfl) T.b_tuple (by decide +kernel) (pacons (plc1 2 rfl sc_reduced.nd (piseqK (K := K) (pv 0)) (blkOk_by (own := [("weight", 2)]) (N := ["weights", "common", "weight"]) (sc := defScope s_reduced) (by decide +kernel)) (by decide) (fun _ _ _ _ _ => pg_name (i := 2) sc_reduced.nd rfl (Or.inl rfl)) (fun _ _ _ _ _ => ptsnil) (fun _ _ _ _ _ => (pop (opFdiv Su (by exact hr.mono (by decide))) (pv 2) (pv 1)))) panil))))))), fun vs M Q Ep h => ?_⟩)
  obtain ⟨x, ws, rfl, hx, hl, k⟩ := h
  rcases hx with hx | ⟨a, hx, hr1⟩
  all_goals
    walk_at "go"
    refine ⟨fun σ M1 => σ = [some x, some (.int (gl ws : Nat)), none] ∧ M1 = M, ?_, ?_⟩
    · obtain ⟨y, hy⟩ : ∃ y, y = x := ⟨_, rfl⟩
      subst hx
      walk_at "on"
      refine ⟨fun i σ M1 => σ = [some y, some (.int (gl (ws.take i) : Nat)), none] ∧ M1 = M, ⟨_, _, .refl _, .refl _, by subst hy; rfl, rfl⟩, ?_, ?_, ?_⟩
      · rintro i σ M1 ⟨rfl, rfl⟩
        first | trivial | assumption
      · rintro i p σ M1 hp ⟨rfl, rfl⟩
        subst hy
        obtain ⟨z, hz, rfl⟩ := int_at hp
        walk_at "on"
        refine ⟨_, _, ?_, .refl _, rfl, rfl⟩
        rw [take_succ' hz, gl_snoc]
        walk_at "subs"
      · rintro σ M1 ⟨rfl, rfl⟩
        subst hy
        refine ⟨_, _, .refl _, .refl _, ?_, rfl⟩
        rw [List.length_map, List.take_length]
    · rintro σ M1 ⟨rfl, rfl⟩
      subst hx
      walk_at "on"
      refine br_dec (fun h0 => ?_) (fun h0 => ?_)
      · walk_at "on"
        exact ⟨_, .refl _, k ws (.zero (gl_zero (by omega)) rfl)⟩
      · walk_at "on"
        intro Dl hD
        refine ⟨fun i acc M' => M' = updM M1 Dl (.lst acc) ∧ acc = ((ws.take i).map fun w => PV.int (w.fdiv (gl ws : Nat))), ⟨_, .refl _, rfl, rfl⟩, ?_, ?_, ?_⟩
        · rintro i acc M' ⟨rfl, rfl⟩
          first | trivial | exact rdL.sub (by assumption) (.new hD)
        · rintro i p acc M' hp ⟨rfl, rfl⟩
          obtain ⟨z, hz, rfl⟩ := int_at hp
          have hi := lt_of_get hz
          walk_at "on"
          refine ⟨updM_same, sz_of (m := 1000) (by rw [List.length_map, List.length_take]; omega) (by decide), _, .refl _, updM_updM, ?_⟩
          rw [take_succ' hz, List.map_append]; rfl
        · rintro acc M' ⟨rfl, rfl⟩
          walk_at "on"
          refine ⟨M1, .new hD, ?_⟩
          rw [List.length_map, List.take_length]
          have := k _ (isRed_of (ws := ws) (by omega))
          rw [List.map_map] at this
          exact this

structure WsOk (ws : List Int) : Prop where
  pos : 0 < ws.length
  len : ws.length ≤ 64
  nn : ∀ w ∈ ws, 0 ≤ w
  bits : ∀ w ∈ ws, intBits w ≤ 2097160
def sp__law_weights (K : Kf) : PSpec := fun vs M Q _ => ∃ (a s : Addr) (ns : List Int), vs = [.ref a, .ref s] ∧ Env K M a s ns ∧ ∀ p M' ws, M p = none → p ≠ s → Env K M' a s ns → Keep s M M' → M' p = some (.lst (ws.map PV.int)) → WsOk ws → Q (.ref p) M'
theorem sp__law_weights_len {K : Kf} {vs : List PV} {M : PHp} {Q : PVK} {E : PXK} (h : sp__law_weights K vs M Q E) : vs.length = 2 := by
  obtain ⟨_, _, _, rfl, _⟩ := h; rfl
theorem ixN_in {n : Nat} {r : Int} (h0 : 0 ≤ r) (h1 : r < (n : Int)) : ixN n r = some r.toNat := by
  unfold ixN
  rw [if_pos h0, if_pos h1]

theorem ok__law_weights {P : Program} {w : World} {K : Kf} {mg : Str → Option Value} {base : Heap} (h0 : Here K mg "_law_weights" s__law_weights ["script", "source"]) (T : Blt mg) (Su : Sure P base) (C__law_draw : Callee P w K mg base 34 "_law_draw" ["script", "source", "limit"] (sp__law_draw K)) (C__law_number : Callee P w K mg base 35 "_law_number" ["script", "source"] (sp__law_number K)) : Callee P w K mg base 36 "_law_weights" ["script", "source"] (sp__law_weights K) := by
  refine ok_of h0 sc__law_weights (fun vs M Q E h => sp__law_weights_len h) (fun f cdv A outer s H E hr => ⟨_, (psscons (psset 2 sc__law_weights.nd (pcallB cAbs (by rfl) T.b_abs (by decide +kernel) (pacons (pcall C__law_number (by exact hr.mono (by decide)) (pacons (pv 0) (pacons (pv 1) panil))) panil)))
      (psscons (psset 3 sc__law_weights.nd (plst panil))
      (psscut (psfor PassesOwn.never rfl (pirng1 (by rfl) T.b_range (pacons (pixK (K := K) (plst (pacons pinT (pacons pinT (pacons pinT (pacons pinT (pacons pinT (pacons pinT (pacons pinT (pacons pinT panil))))))))) (pcall C__law_draw (by exact hr.mono (by decide)) (pacons (pv 0) (pacons (pv 1) (pacons pinT panil))))) panil)) (pgname (i := 4) sc__law_weights.nd) (pssone (psexpr (pbmK (K := K) PySem.F.plainAttrs_list PySem.F.slot_list_append PySem.F.type_list_append mAppend (pv 3) (pacons (pop opMul (pv 2) (pixK (K := K) (plst (pacons pinT (pacons pinT (pacons pinT (pacons pinT (pacons pinT (pacons pinT (pacons pinT (pacons pinT panil))))))))) (pcall C__law_draw (by exact hr.mono (by decide)) (pacons (pv 0) (pacons (pv 1) (pacons pinT panil)))))) panil)))))
      (psscut (psif (ptcmp (opEqK (K := K) (by exact hr.units)) (pcall C__law_draw (by exact hr.mono (by decide)) (pacons (pv 0) (pacons (pv 1) (pacons pinT panil)))) pinT (nomark _)) (pssone (psasg (pop opMul (pv 2) (pcallB cAbs (by rfl) T.b_abs (by decide +kernel) (pacons (pcall C__law_number (by exact hr.mono (by decide)) (pacons (pv 0) (pacons (pv 1) panil))) panil))) (pgsub (pv 3) (pcall C__law_draw (by exact hr.mono (by decide)) (pacons (pv 0) (pacons (pv 1) (pacons (pcallB (cLenK (K := K)) (by rfl) T.b_len (by decide +kernel) (pacons (pv 3) panil)) panil))))))) pssnil)
      (pssone (psret (pv 3))))))), fun vs M Q Ep h => ?_⟩)
  obtain ⟨a, s, ns, rfl, e, k⟩ := h
  walk_at "go"
  refine ⟨a, s, ns, rfl, e, fun f M1 hf e1 k1 => ?_⟩
  walk_at "on"
  intro p hp
  have ps : p ≠ s := e1.src_ne hp
  have hpM : M p = none := by
    cases q : M p with
    | none => rfl
    | some o => have := k1 p o ps q; rw [hp] at this; cases this
  have hf2 := intBits_natAbs_le hf
  generalize hff : (f.natAbs : Int) = ff at hf2
  have hff0 : 0 ≤ ff := by omega
  walk_at "on"
  refine ⟨fun σ M' => ∃ ws, σ = [some (.ref a), some (.ref s), some (.int ff), some (.ref p), none] ∧ M' p = some (.lst (ws.map PV.int)) ∧ Env K M' a s ns ∧ Keep s M M' ∧ WsOk ws, ?_, ?_⟩
  · walk_at "on"
    intro q hq
    walk_at "on"
    have qp : p ≠ q := fun z => by rw [← z, updM_same] at hq; cases hq
    refine ⟨a, s, ns, 8, rfl, (e1.new hp).new hq, by decide, by decide, fun n2 M2 h20 h21 e2 k2 => ?_⟩
    have hq2 : M2 q = _ := k2 q _ ((e1.new hp).src_ne hq) updM_same
    have hp2 : M2 p = some (.lst []) := k2 p _ ps (by rw [updM_ne qp, updM_same])
    obtain ⟨cn, hcn, c0, c1⟩ : ∃ c : Int, atI [PV.int 1, PV.int 2, PV.int 3, PV.int 5, PV.int 2, PV.int 12, PV.int 4, PV.int 64] n2 = some (.int c) ∧ 0 < c ∧ c ≤ 64 := by
      obtain h | h | h | h | h | h | h | h : n2 = 0 ∨ n2 = 1 ∨ n2 = 2 ∨ n2 = 3 ∨ n2 = 4 ∨ n2 = 5 ∨ n2 = 6 ∨ n2 = 7 := by omega
      all_goals (subst h; exact ⟨_, rfl, by decide, by decide⟩)
    have kM2 : Keep s M M2 := by
      refine Keep.trans k1 (Keep.trans ?_ k2)
      exact (Keep.new hp).trans (Keep.new hq)
    walk_at "on"
    refine ⟨by omega, ?_⟩
    refine ⟨fun i σ M' => ∃ ws : List Int, σ = [some (.ref a), some (.ref s), some (.int ff), some (.ref p), none] ∧ M' p = some (.lst (ws.map PV.int)) ∧ Env K M' a s ns ∧ Keep s M M' ∧ ws.length = i ∧ i ≤ 64 ∧ (∀ w ∈ ws, 0 ≤ w) ∧ ∀ w ∈ ws, intBits w ≤ 2097160, ⟨_, _, .refl _, .refl _, [], rfl, hp2, e2, kM2, rfl, by decide, by simp, by simp⟩, ?_, ?_, ?_⟩
    · intros; trivial
    · rintro i x σ M' hx ⟨ws, rfl, h1, h2, h3, h4, h5, h6, h7⟩
      obtain ⟨hi, rfl⟩ := rng_get hx
      walk_at "on"
      intro q2 hq2
      walk_at "on"
      have qp2 : p ≠ q2 := neM h1 hq2
      refine ⟨a, s, ns, 8, rfl, h2.new hq2, by decide, by decide, fun n3 M3 h30 h31 e3 k3 => ?_⟩
      have hq3 : M3 q2 = _ := k3 q2 _ (h2.src_ne hq2) updM_same
      have hp3 : M3 p = some (.lst (ws.map PV.int)) := k3 p _ ps (by rw [updM_ne qp2]; exact h1)
      obtain ⟨z, hz, z0, zb⟩ : ∃ c : Int, atI [PV.int 0, PV.int 1, PV.int 2, PV.int 3, PV.int 4, PV.int 6, PV.int 9, PV.int 10] n3 = some (.int c) ∧ 0 ≤ c ∧ intBits c ≤ 4 := by
        obtain h | h | h | h | h | h | h | h : n3 = 0 ∨ n3 = 1 ∨ n3 = 2 ∨ n3 = 3 ∨ n3 = 4 ∨ n3 = 5 ∨ n3 = 6 ∨ n3 = 7 := by omega
        all_goals (subst h; exact ⟨_, rfl, by decide, by decide +kernel⟩)
      walk_at "on"
      refine ⟨IntMulOk.of_right (Nat.le_trans zb (by decide)), ?_⟩
      walk_at "on"
      refine ⟨_, hp3, sz_of (m := 64) (by rw [List.length_map]; omega) (by decide), ?_⟩
      walk_at "on"
      have hkeep : ∀ o, Keep s M (updM M3 p o) := fun o b u nb hb => by
        by_cases hbp : b = p
        · subst hbp; rw [hpM] at hb; cases hb
        · rw [updM_ne hbp]
          exact (h3.trans ((Keep.new hq2).trans k3)) b u nb hb
      have henv : ∀ o, Env K (updM M3 p o) a s ns := fun o => e.keep e3 (hkeep o) (updM_ne ps.symm)
      refine ⟨_, _, ?_, .refl _, ws ++ [ff * z], rfl, by rw [List.map_append]; exact updM_same, henv _, hkeep _, by simp [h4], by omega, ?_, ?_⟩
      · walk_at "subs"
      · intro w hw
        rcases List.mem_append.mp hw with h | h
        · exact h6 w h
        · rw [List.mem_singleton.mp h]; exact Int.mul_nonneg hff0 z0
      · intro w hw
        rcases List.mem_append.mp hw with h | h
        · exact h7 w h
        · rw [List.mem_singleton.mp h]; exact Nat.le_trans (intBits_mul_le hf2 zb) (by decide)
    · rintro σ M' ⟨ws, rfl, h1, h2, h3, h4, h5, h6, h7⟩
      rw [rng_len] at h4
      exact ⟨_, _, .refl _, .refl _, ws, rfl, h1, h2, h3, ⟨by omega, by omega, h6, h7⟩⟩
  · rintro σ M' ⟨ws, rfl, h1, h2, h3, W⟩
    refine ⟨fun σ M' => ∃ ws, σ = [some (.ref a), some (.ref s), some (.int ff), some (.ref p), none] ∧ M' p = some (.lst (ws.map PV.int)) ∧ Env K M' a s ns ∧ Keep s M M' ∧ WsOk ws, ?_, ?_⟩
    · walk_at "on"
      refine ⟨a, s, ns, 4, rfl, h2, by decide, by decide, fun n3 M3 h30 h31 e3 k3 => ?_⟩
      have hp3 : M3 p = some (.lst (ws.map PV.int)) := k3 p _ ps h1
      walk_at "on"
      refine br_dec (fun h0 => ?_) (fun h0 => ?_)
      · walk_at "on"
        refine ⟨a, s, ns, rfl, e3, fun g M4 hg e4 k4 => ?_⟩
        have hg2 := intBits_natAbs_le hg
        have hp4 : M4 p = some (.lst (ws.map PV.int)) := k4 p _ ps hp3
        walk_at "on"
        refine ⟨IntMulOk.of_le hf2 hg2 (by decide), ?_⟩
        walk_at "on"
        have wl := W.len
        have wp := W.pos
        refine ⟨a, s, ns, _, rfl, e4, by rw [List.length_map]; omega, by rw [List.length_map]; exact bits_lt (by omega), fun j M5 hj0 hj1 e5 k5 => ?_⟩
        rw [List.length_map] at hj1
        have hp5 : M5 p = some (.lst (ws.map PV.int)) := k5 p _ ps hp4
        walk_at "on"
        refine ⟨_, _, hp5, ixN_in hj0 (by rw [List.length_map]; exact hj1), ?_⟩
        walk_at "on"
        have kk : Keep s M M5 := by walk_at "keep"
        have hkeep : ∀ o, Keep s M (updM M5 p o) := fun o b u nb hb => by
          by_cases hbp : b = p
          · subst hbp; rw [hpM] at hb; cases hb
          · rw [updM_ne hbp]
            exact kk b u nb hb
        have henv : ∀ o, Env K (updM M5 p o) a s ns := fun o => e.keep e5 (hkeep o) (updM_ne ps.symm)
        refine ⟨_, _, .refl _, .refl _, ws.set j.toNat (ff * (g.natAbs : Int)), rfl, by rw [List.map_set]; exact updM_same, henv _, hkeep _, by rw [List.length_set]; omega, by rw [List.length_set]; omega, ?_, ?_⟩
        · intro w hw
          rcases List.mem_or_eq_of_mem_set hw with h | h
          · exact W.nn w h
          · rw [h]; exact Int.mul_nonneg hff0 (by omega)
        · intro w hw
          rcases List.mem_or_eq_of_mem_set hw with h | h
          · exact W.bits w h
          · rw [h]; exact Nat.le_trans (intBits_mul_le hf2 hg2) (by decide)
      · walk_at "on"
        exact ⟨_, _, .refl _, .refl _, ws, rfl, hp3, e3, by walk_at "keep", W⟩
    · rintro σ M' ⟨ws, rfl, h1, h2, h3, W⟩
      walk_at "on"
      exact ⟨_, .refl _, k p M' ws hpM ps h2 h3 h1 W⟩

def sp__law_is_reduced (K : Kf) : PSpec := fun vs M Q _ => ∃ (p : Addr) (ws rs : List Int), vs = [.tup (rs.map PV.int), .ref p] ∧ rdL K M p (ws.map PV.int) ∧ IsRed ws rs ∧ 0 < ws.length ∧ ws.length ≤ 64 ∧ (∀ w ∈ ws, 0 ≤ w) ∧ (∀ w ∈ ws, intBits w ≤ 8388608) ∧ Q (.bl true) M
theorem sp__law_is_reduced_len {K : Kf} {vs : List PV} {M : PHp} {Q : PVK} {E : PXK} (h : sp__law_is_reduced K vs M Q E) : vs.length = 2 := by
  obtain ⟨_, _, _, rfl, _⟩ := h; rfl
theorem IsRed.nn {ws rs : List Int} (h : IsRed ws rs) (n : ∀ w ∈ ws, 0 ≤ w) : ∀ r ∈ rs, 0 ≤ r := by
  cases h with
  | zero h e => rw [e]; exact n
  | pos g hg e h =>
    intro r hr
    have := n (g * r) (by rw [e]; exact List.mem_map_of_mem hr)
    exact Int.nonneg_of_mul_nonneg_right this hg
theorem IsRed.bits {ws rs : List Int} (h : IsRed ws rs) {n : Nat} (b : ∀ w ∈ ws, intBits w ≤ n) : ∀ r ∈ rs, intBits r ≤ n := by
  cases h with
  | zero h e => rw [e]; exact b
  | pos g hg e h =>
    intro r hr
    refine intBits_le_of_natAbs ?_ (b (g * r) (by rw [e]; exact List.mem_map_of_mem hr))
    rw [Int.natAbs_mul]
    exact Nat.le_mul_of_pos_left _ (by omega)
/-- the place of the greatest one -/
theorem first_at {ws : List Int} {m : Int} (h : m ∈ ws) : ∃ j, ws[j]? = some m ∧ (∀ i, i < j → ws[i]? ≠ some m) ∧ j < ws.length := by
  induction ws with
  | nil => cases h
  | cons x r ih =>
    by_cases e : x = m
    · exact ⟨0, by rw [e]; rfl, fun i hi => absurd hi (by omega), by simp⟩
    · obtain ⟨j, h1, h2, h3⟩ := ih (by rcases List.mem_cons.mp h with q | q; exact absurd q.symm e; exact q)
      refine ⟨j + 1, h1, fun i hi => ?_, by simp; omega⟩
      cases i with
      | zero => simpa using e
      | succ i => exact h2 i (by omega)
theorem at_nat {ns : List Int} {i : Nat} {z : Int} (h : ns[i]? = some z) : atI (ns.map PV.int) (i : Int) = some (.int z) := by
  refine atI_nat ?_
  rw [List.getElem?_map, h]; rfl
theorem IsRed.max0 {ws rs : List Int} (h : IsRed ws rs) (nn : ∀ w ∈ ws, 0 ≤ w) (hm : ∀ w ∈ ws, w ≤ 0) : ∀ r ∈ rs, r = 0 := by
  cases h with
  | zero h e => rw [e]; exact h
  | pos g hg e h =>
    intro r hr
    have hw : g * r ∈ ws := by rw [e]; exact List.mem_map_of_mem hr
    have h1 := nn _ hw
    have h2 := hm _ hw
    have h3 : g * r = 0 := by omega
    rcases Int.mul_eq_zero.mp h3 with h | h <;> omega
theorem IsRed.some_pos {ws rs : List Int} (h : IsRed ws rs) {m : Int} (hm : m ∈ ws) (h0 : m ≠ 0) : ∃ g, 0 < g ∧ ws = rs.map (g * ·) ∧ gl rs = 1 := by
  cases h with
  | zero h e => exact absurd (h m hm) h0
  | pos g hg e h => exact ⟨g, hg, e, h⟩
theorem get_mul {ws rs : List Int} {g : Int} (e : ws = rs.map (g * ·)) {i : Nat} {w : Int} (h : ws[i]? = some w) : ∃ r, rs[i]? = some r ∧ w = g * r := by
  rw [e, List.getElem?_map] at h
  cases q : rs[i]? with
  | none => rw [q] at h; cases h
  | some r => rw [q] at h; exact ⟨r, rfl, (Option.some.inj h).symm⟩

theorem ok__law_is_reduced {P : Program} {w : World} {K : Kf} {mg : Str → Option Value} {base : Heap} (h0 : Here K mg "_law_is_reduced" s__law_is_reduced ["told", "weights"]) (T : Blt mg) (Su : Sure P base) (C__law_gcd : Callee P w K mg base 34 "_law_gcd" ["a", "b"] (sp__law_gcd K)) (C__law_whole : Callee P w K mg base 34 "_law_whole" ["item"] (sp__law_whole K)) : Callee P w K mg base 35 "_law_is_reduced" ["told", "weights"] (sp__law_is_reduced K) := by
  refine ok_of h0 sc__law_is_reduced (fun vs M Q E h => sp__law_is_reduced_len h) (fun f cdv A outer s H E hr => ⟨_, (psscons (psif (PW.pt (pwor (ptnot (ptval (pcallB (cIsiK (K := K)) (by rfl) T.b_isinstance (by decide +kernel) (pacons (pv 0) (pacons (pbltn (p := .ty "tuple") (v := .ty "tuple") (by rfl) T.b_tuple (by decide +kernel) rfl (fun _ => .ty _)) panil))))) (pwor1 (ptcmp (opNeK (K := K) (by exact hr.units)) (pcallB (cLenK (K := K)) (by rfl) T.b_len (by decide +kernel) (pacons (pv 0) panil)) (pcallB (cLenK (K := K)) (by rfl) T.b_len (by decide +kernel) (pacons (pv 1) panil)) (nomark _))))) (pssone (psret pbl)) pssnil)
      (psscons (psif (ptcmp opGt (pcallB (cLenK (K := K)) (by rfl) T.b_len (by decide +kernel) (pacons (plc1 5 rfl sc__law_is_reduced.nd (piseqK (K := K) (pv 0)) (blkOk_by (own := [("weight", 5)]) (N := ["told", "weights", "most", "at", "common", "weight", "k"]) (sc := defScope s__law_is_reduced) (by decide +kernel)) (by decide) (fun _ _ _ _ _ => pg_name (i := 5) sc__law_is_reduced.nd rfl (Or.inl rfl)) (fun _ _ _ _ _ => (ptsone (PW.pt (pwor (ptnot (ptval (pcall C__law_whole (by exact hr.mono (by decide)) (pacons (pv 5) panil)))) (pwor1 (ptcmp (opLt (by exact hr.units0)) (pv 5) pinT (nomark _))))))) (fun _ _ _ _ _ => (pv 5))) panil)) pinT (nomark _)) (pssone (psret pbl)) pssnil)
      (psscons (psset 2 sc__law_is_reduced.nd (pcallB (cMaxK (K := K) rfl) (by rfl) T.b_max (by decide +kernel) (pacons (pv 1) panil)))
      (psscons (psset 3 sc__law_is_reduced.nd (pbmK (K := K) PySem.F.plainAttrs_list PySem.F.slot_list_index PySem.F.type_list_index (mIndexIK (K := K)) (pv 1) (pacons (pv 2) panil)))
      (psscons (psif (ptcmp (opEqK (K := K) (by exact hr.units)) (pv 2) pinT (nomark _)) (pssone (psret (pcmp (opEqK (K := K) (by exact hr.units)) (pcallB (cMaxK (K := K) rfl) (by rfl) T.b_max (by decide +kernel) (pacons (pv 0) panil)) pinT (nomark _)))) pssnil)
      (psscons (psset 4 sc__law_is_reduced.nd pinT)
      (psscut (psfor PassesOwn.never rfl (piseqK (K := K) (pv 0)) (pgname (i := 5) sc__law_is_reduced.nd) (pssone (psset 4 sc__law_is_reduced.nd (pcall C__law_gcd (by exact hr.mono (by decide)) (pacons (pv 5) (pacons (pv 4) panil))))))
      (psscons (psif (ptcmp (opNeK (K := K) (by exact hr.units)) (pv 4) pinT (nomark _)) (pssone (psret pbl)) pssnil)
      (pssone (psret (pcmp (opEqK (K := K) (by exact hr.units)) (pcallB (cLenK (K := K)) (by rfl) T.b_len (by decide +kernel) (pacons (plc1 6 rfl sc__law_is_reduced.nd (pirng1 (by rfl) T.b_range (pacons (pcallB (cLenK (K := K)) (by rfl) T.b_len (by decide +kernel) (pacons (pv 1) panil)) panil)) (blkOk_by (own := [("k", 6)]) (N := ["told", "weights", "most", "at", "common", "weight", "k"]) (sc := defScope s__law_is_reduced) (by decide +kernel)) (by decide) (fun _ _ _ _ _ => pg_name (i := 6) sc__law_is_reduced.nd rfl (Or.inl rfl)) (fun _ _ _ _ _ => (ptsone (ptcmp (opNeK (K := K) (by exact hr.units)) (pop opMul (pixK (K := K) (pv 0) (pv 6)) (pv 2)) (pop opMul (pixK (K := K) (pv 1) (pv 6)) (pixK (K := K) (pv 0) (pv 3))) (nomark _)))) (fun _ _ _ _ _ => (pv 6))) panil)) pinT (nomark _)))))))))))), fun vs M Q Ep h => ?_⟩)
  obtain ⟨p, ws, rs, rfl, hp, hR, h1, h2, h3, h4, k⟩ := h
  have hl := hR.len
  have rn := hR.nn h3
  have rb := hR.bits h4
  walk_at "go"
  refine br_f (by simp [hl]) ?_
  walk_at "on"
  intro Dl hD
  refine ⟨fun i acc M' => M' = updM M Dl (.lst []) ∧ acc = [], ⟨_, .refl _, rfl, rfl⟩, ?_, ?_, ?_⟩
  · intros; trivial
  · rintro i x acc M' hx ⟨rfl, rfl⟩
    obtain ⟨z, hz, rfl⟩ := int_at hx
    walk_at "on"
    refine ⟨z, rfl, ?_⟩
    walk_at "on"
    refine br_f (decide_eq_false (by have := rn z (List.mem_of_getElem? hz); omega)) ?_
    exact ⟨_, .refl _, rfl, rfl⟩
  · rintro acc M' ⟨rfl, rfl⟩
    have hp2 : rdL K (updM M Dl (.lst [])) p (ws.map PV.int) := hp.sub (.new hD)
    have sb2 : Sub M (updM M Dl (.lst [])) := .new hD
    walk_at "on"
    refine br_f rfl ?_
    generalize updM M Dl (.lst []) = M2 at hp2 sb2
    walk_at "on"
    refine ⟨ws, hp2, h1, fun m hm hmx => ?_⟩
    obtain ⟨j, hj1, hj2, hj3⟩ := first_at hm
    walk_at "on"
    refine ⟨ws, j, hp2, hj1, hj2, ?_⟩
    walk_at "on"
    refine br_dec (fun h0 => ?_) (fun h0 => ?_)
    · subst h0
      walk_at "on"
      refine ⟨rs, rfl, by omega, fun r hr _ => ?_⟩
      have hr0 := hR.max0 h3 hmx r hr
      subst hr0
      exact ⟨_, sb2, k⟩
    · obtain ⟨g, hg, hwr, hgl⟩ := hR.some_pos hm h0
      walk_at "on"
      refine ⟨fun σ M' => σ = [some (.tup (rs.map PV.int)), some (.ref p), some (.int m), some (.int j), some (.int 1), none, none] ∧ M' = M2, ?_, ?_⟩
      · walk_at "on"
        refine ⟨fun i σ M' => σ = [some (.tup (rs.map PV.int)), some (.ref p), some (.int m), some (.int j), some (.int (gl (rs.take i) : Nat)), none, none] ∧ M' = M2, ⟨_, _, .refl _, .refl _, rfl, rfl⟩, ?_, ?_, ?_⟩
        · intros; trivial
        · rintro i x σ M' hx ⟨rfl, rfl⟩
          obtain ⟨z, hz, rfl⟩ := int_at hx
          have z0 := rn z (List.mem_of_getElem? hz)
          walk_at "on"
          refine ⟨z.natAbs, gl (rs.take i), by rw [Int.natAbs_of_nonneg z0], ?_⟩
          walk_at "on"
          refine ⟨_, _, ?_, .refl _, rfl, rfl⟩
          rw [take_succ' hz, gl_snoc, Nat.gcd_comm]
          walk_at "subs"
        · rintro σ M' ⟨rfl, rfl⟩
          rw [List.length_map, List.take_length, hgl]
          exact ⟨_, _, .refl _, .refl _, rfl, rfl⟩
      · rintro σ M' ⟨rfl, rfl⟩
        obtain ⟨rj, hrj, hmj⟩ := get_mul hwr hj1
        have hjA := at_nat hrj
        walk_at "on"
        refine br_f rfl ?_
        walk_at "on"
        refine ⟨by rw [List.length_map]; omega, ?_⟩
        intro D2 hD2
        refine ⟨fun i acc M'' => M'' = updM M' D2 (.lst []) ∧ acc = [], ⟨_, .refl _, rfl, rfl⟩, ?_, ?_, ?_⟩
        · intros; trivial
        · rintro i x acc M'' hx ⟨rfl, rfl⟩
          rw [List.length_map] at hx
          obtain ⟨hi, rfl⟩ := rng_get hx
          have hi2 : i < ws.length := by omega
          obtain ⟨ri, hri, hwi⟩ := get_mul hwr (List.getElem?_eq_getElem hi2)
          have a1 := at_nat hri
          have a2 := at_nat (List.getElem?_eq_getElem hi2)
          rw [hwi] at a2
          have b1 := rb ri (List.mem_of_getElem? hri)
          have b2 := rb rj (List.mem_of_getElem? hrj)
          have b3 := h4 m hm
          have b4 : intBits (g * ri) ≤ 8388608 := by rw [← hwi]; exact h4 _ (List.getElem_mem hi2)
          have hp3 : rdL K (updM M' D2 (.lst [])) p (ws.map PV.int) := hp2.sub (.new hD2)
          rw [Int.zero_add]
          walk_at "on"
          refine ⟨IntMulOk.of_le b1 b3 (by decide), ?_⟩
          walk_at "on"
          refine ⟨IntMulOk.of_le b4 b2 (by decide), ?_⟩
          walk_at "on"
          refine br_ndec (fun hne => absurd ?_ hne) (fun _ => ⟨_, .refl _, rfl, rfl⟩)
          rw [hmj]
          grind
        · rintro acc M'' ⟨rfl, rfl⟩
          walk_at "on"
          exact ⟨M, sb2.trans (.new hD2), k⟩

theorem dps_ints {K : Kf} {M : PHp} : ∀ ns : List Int, DpsP K M (ns.map PV.int) (ns.map PyData.int)
  | [] => .nil
  | _ :: r => .cons (.int _) (dps_ints r)
theorem eqv_ints : ∀ ns ms : List Int, PyData.eqvAll (ns.map PyData.int) (ms.map PyData.int) = decide (ns = ms)
  | [], [] => rfl
  | [], _ :: _ => rfl
  | _ :: _, [] => rfl
  | x :: xs, y :: ys => by
    show (x == y && PyData.eqvAll (xs.map PyData.int) (ys.map PyData.int)) = _
    rw [eqv_ints xs ys]
    by_cases h : x = y <;> by_cases h2 : xs = ys <;> simp [h, h2]
theorem sh_ints (ns : List Int) : SeqAt.shaped (.list (ns.map PyData.int)) = true ∧ SeqAt.shaped (.tuple (ns.map PyData.int)) = true := by
  have c : PyData.canLayAll0 (ns.map PyData.int) = true := by
    induction ns with
    | nil => rfl
    | cons x r ih => show (true && PyData.canLayAll0 (r.map PyData.int)) = true; rw [ih]; rfl
  have d : PyData.depthAll (ns.map PyData.int) = 0 := by
    induction ns with
    | nil => rfl
    | cons x r ih => 
      show max 0 (PyData.depthAll (r.map PyData.int)) = 0
      rw [ih (by simpa [PyData.canLayAll0, PyData.canLay0] using c)]; rfl
  constructor
  all_goals
    show (PyData.canLayAll0 (ns.map PyData.int) && decide (PyData.depthAll (ns.map PyData.int) + 1 ≤ 64)) = true
    rw [c, d]; rfl
theorem eqd_lists {K : Kf} {M : PHp} {a b : Addr} {ns ms : List Int} {R : Bool → Prop} (h1 : rdL K M a (ns.map PV.int)) (h2 : rdL K M b (ms.map PV.int)) (q : R (decide (ns = ms))) : eqD K (.ref a) (.ref b) M R :=
  eqD_of (.lst h1 (dps_ints ns)) (.lst h2 (dps_ints ms)) (sh_ints ns).1 (sh_ints ms).1 (by show R (PyData.eqvAll _ _); rw [eqv_ints]; exact q)

abbrev sp__law_weights_told (K : Kf) : PSpec := sp__law_fraction_told K
theorem sp__law_weights_told_len {K : Kf} {vs : List PV} {M : PHp} {Q : PVK} {E : PXK} (h : sp__law_weights_told K vs M Q E) : vs.length = 2 := sp__law_fraction_told_len h
theorem IsRed.scale {ws rs : List Int} {f : Int} (hf : 0 < f) (h : IsRed (ws.map (f * ·)) rs) : IsRed ws rs := by
  cases h with
  | zero h e =>
    have z : ∀ w ∈ ws, w = 0 := fun w hw => by
      have := h (f * w) (List.mem_map_of_mem hw)
      rcases Int.mul_eq_zero.mp this with q | q <;> omega
    refine .zero z ?_
    rw [e]
    conv => rhs; rw [← List.map_id ws]
    refine List.map_congr_left fun w hw => ?_
    rw [z w hw]; simp
  | pos g hg e h =>
    have e2 := congrArg gl e
    rw [gl_mul, gl_mul, h, Nat.mul_one] at e2
    have e3 : g = f * (gl ws : Nat) := by
      have : (g.natAbs : Int) = ((f.natAbs * gl ws : Nat) : Int) := by rw [e2]
      rw [Int.natCast_mul, Int.natAbs_of_nonneg (by omega), Int.natAbs_of_nonneg (by omega)] at this
      exact this
    have g0 : 0 < ((gl ws : Nat) : Int) := by
      rcases Nat.eq_zero_or_pos (gl ws) with q | q
      · rw [q] at e3; simp at e3; omega
      · omega
    refine .pos _ g0 ?_ h
    have e4 : ws.map (f * ·) = (rs.map (((gl ws : Nat) : Int) * ·)).map (f * ·) := by
      rw [e, List.map_map]
      refine List.map_congr_left fun r _ => ?_
      show g * r = f * (((gl ws : Nat) : Int) * r)
      rw [← Int.mul_assoc, ← e3]
    exact (List.map_inj_right (fun x y (q : f * x = f * y) => Int.eq_of_mul_eq_mul_left (by omega) q)).mp e4

theorem ok__law_weights_told {P : Program} {w : World} {K : Kf} {mg : Str → Option Value} {base : Heap} (h0 : Here K mg "_law_weights_told" s__law_weights_told ["script", "source"]) (T : Blt mg) (Su : Sure P base) (C__law_bottom : Callee P w K mg base 36 "_law_bottom" ["script", "source"] (sp__law_bottom K)) (C__law_draw : Callee P w K mg base 34 "_law_draw" ["script", "source", "limit"] (sp__law_draw K)) (C__law_is_reduced : Callee P w K mg base 35 "_law_is_reduced" ["told", "weights"] (sp__law_is_reduced K)) (C__law_weights : Callee P w K mg base 36 "_law_weights" ["script", "source"] (sp__law_weights K)) (C_reduced : Callee P w K mg base 34 "reduced" ["weights"] (sp_reduced K)) : Callee P w K mg base 37 "_law_weights_told" ["script", "source"] (sp__law_weights_told K) := by
  refine ok_of h0 sc__law_weights_told (fun vs M Q E h => sp__law_weights_told_len h) (fun f cdv A outer s H E hr => ⟨_, (psscons (psset 2 sc__law_weights_told.nd (pcall C__law_weights (by exact hr.mono (by decide)) (pacons (pv 0) (pacons (pv 1) panil))))
      (psscons (psset 3 sc__law_weights_told.nd (pcallTy (cTupleK (K := K)) (by rfl) T.b_tuple (by decide +kernel) (pacons (pv 2) panil)))
      (psscons (psif (PW.pt (pwor (ptnot (ptval (pcall C__law_is_reduced (by exact hr.mono (by decide)) (pacons (pcall C_reduced (by exact hr.mono (by decide)) (pacons (pv 2) panil)) (pacons (pcallTy (cListK (K := K)) (by rfl) T.b_list (by decide +kernel) (pacons (pv 3) panil)) panil))))) (pwor1 (ptcmp (opNeK (K := K) (by exact hr.units)) (pv 2) (pcallTy (cListK (K := K)) (by rfl) T.b_list (by decide +kernel) (pacons (pv 3) panil)) (nomark _))))) (pssone (psret pbl)) pssnil)
      (psscons (psif (ptnot (ptval (pcall C__law_is_reduced (by exact hr.mono (by decide)) (pacons (pcall C_reduced (by exact hr.mono (by decide)) (pacons (pv 3) panil)) (pacons (pcallTy (cListK (K := K)) (by rfl) T.b_list (by decide +kernel) (pacons (pv 3) panil)) panil))))) (pssone (psret pbl)) pssnil)
      (psscons (psset 4 sc__law_weights_told.nd (pcallB cAbs (by rfl) T.b_abs (by decide +kernel) (pacons (pcall C__law_bottom (by exact hr.mono (by decide)) (pacons (pv 0) (pacons (pv 1) panil))) panil)))
      (psscons (psif (ptnot (ptval (pcall C__law_is_reduced (by exact hr.mono (by decide)) (pacons (pcall C_reduced (by exact hr.mono (by decide)) (pacons (plc1 7 rfl sc__law_weights_told.nd (piseqK (K := K) (pv 3)) (blkOk_by (own := [("weight", 7)]) (N := ["script", "source", "weights", "kept", "factor", "zeros", "at", "weight"]) (sc := defScope s__law_weights_told) (by decide +kernel)) (by decide) (fun _ _ _ _ _ => pg_name (i := 7) sc__law_weights_told.nd rfl (Or.inl rfl)) (fun _ _ _ _ _ => ptsnil) (fun _ _ _ _ _ => (pop opMul (pv 4) (pv 7)))) panil)) (pacons (pcallTy (cListK (K := K)) (by rfl) T.b_list (by decide +kernel) (pacons (pv 3) panil)) panil))))) (pssone (psret pbl)) pssnil)
      (psscons (pssetlc1 5 7 rfl sc__law_weights_told.nd rfl (sw_true rfl rfl rfl (by decide +kernel)) (piseqK (K := K) (pv 3)) (blkOk_by (own := [("weight", 7)]) (N := ["script", "source", "weights", "kept", "factor", "zeros", "at", "weight"]) (sc := defScope s__law_weights_told) (by decide +kernel)) (by decide) (fun _ _ _ _ _ => pg_name (i := 7) sc__law_weights_told.nd rfl (Or.inl rfl)) (fun _ _ _ _ _ => ptsnil) (fun _ _ _ _ _ => pinT))
      (psscons (psif (ptnot (ptval (pcall C__law_is_reduced (by exact hr.mono (by decide)) (pacons (pcall C_reduced (by exact hr.mono (by decide)) (pacons (pv 5) panil)) (pacons (pv 5) panil))))) (pssone (psret pbl)) pssnil)
      (psscons (psset 6 sc__law_weights_told.nd (pcall C__law_draw (by exact hr.mono (by decide)) (pacons (pv 0) (pacons (pv 1) (pacons (pcallB (cLenK (K := K)) (by rfl) T.b_len (by decide +kernel) (pacons (pv 2) panil)) panil)))))
      (psscons (psasg (pop opAdd (pixK (K := K) (pv 2) (pv 6)) pinT) (pgsub (pv 2) (pv 6)))
      (pssone (psret (pcall C__law_is_reduced (by exact hr.mono (by decide)) (pacons (pcall C_reduced (by exact hr.mono (by decide)) (pacons (pv 2) panil)) (pacons (pcallTy (cListK (K := K)) (by rfl) T.b_list (by decide +kernel) (pacons (pv 2) panil)) panil))))))))))))))), fun vs M Q Ep h => ?_⟩)
  obtain ⟨a, s, ns, rfl, e, k⟩ := h
  walk_at "go"
  refine ⟨a, s, ns, rfl, e, fun p M1 ws hpM ps e1 k1 hp1 W => ?_⟩
  walk_at "on"
  have wl := W.len
  refine ⟨_, ws, rfl, .inr ⟨p, rfl, .inl hp1⟩, by omega, fun rs hrs => ?_⟩
  walk_at "on"
  intro q1 hq1
  walk_at "on"
  have wb : ∀ w ∈ ws, intBits w ≤ 8388608 := fun w hw => Nat.le_trans (W.bits w hw) (by decide)
  have hpa : M1 p = some (.lst (ws.map PV.int)) := hp1
  refine ⟨q1, ws, rs, rfl, .inl updM_same, hrs, W.pos, wl, W.nn, wb, ?_⟩
  have hp2 : updM M1 q1 (.lst (ws.map PV.int)) p = some (.lst (ws.map PV.int)) := by rw [updM_ne (neM hp1 hq1)]; exact hp1
  have e2 := e1.new (o := .lst (ws.map PV.int)) hq1
  have k2 : Keep s M (updM M1 q1 (.lst (ws.map PV.int))) := k1.trans (.new hq1)
  generalize updM M1 q1 (.lst (ws.map PV.int)) = M2 at hp2 e2 k2
  walk_at "on"
  intro q2 hq2
  walk_at "on"
  have hp3 : updM M2 q2 (.lst (ws.map PV.int)) p = some (.lst (ws.map PV.int)) := by rw [updM_ne (neM hp2 hq2)]; exact hp2
  refine eqd_lists (.inl hp3) (.inl updM_same) ?_
  have e3 := e2.new (o := .lst (ws.map PV.int)) hq2
  have k3 : Keep s M (updM M2 q2 (.lst (ws.map PV.int))) := k2.trans (.new hq2)
  generalize updM M2 q2 (.lst (ws.map PV.int)) = M3 at hp3 e3 k3
  walk_at "on"
  refine br_f (by simp) ?_
  walk_at "on"
  refine ⟨_, ws, rfl, .inl rfl, by omega, fun rs2 hrs2 => ?_⟩
  walk_at "on"
  intro q4 hq4
  walk_at "on"
  refine ⟨q4, ws, rs2, rfl, .inl updM_same, hrs2, W.pos, wl, W.nn, wb, ?_⟩
  have hp4 : updM M3 q4 (.lst (ws.map PV.int)) p = some (.lst (ws.map PV.int)) := by rw [updM_ne (neM hp3 hq4)]; exact hp3
  have e4 := e3.new (o := .lst (ws.map PV.int)) hq4
  have k4 : Keep s M (updM M3 q4 (.lst (ws.map PV.int))) := k3.trans (.new hq4)
  generalize updM M3 q4 (.lst (ws.map PV.int)) = M4 at hp4 e4 k4
  walk_at "on"
  refine ⟨a, s, ns, rfl, e4, fun f M5 hf0 hfb e5 k5 => ?_⟩
  have hp5 : M5 p = some (.lst (ws.map PV.int)) := k5 p _ ps hp4
  have hfb2 := intBits_natAbs_le hfb
  walk_at "on"
  have hf1 : (0 : Int) < (f.natAbs : Int) := by omega
  generalize (f.natAbs : Int) = ff at hfb2 hf1
  intro Dl hD
  refine ⟨fun i acc M' => M' = updM M5 Dl (.lst acc) ∧ acc = ((ws.take i).map fun w => PV.int (ff * w)), ⟨_, .refl _, rfl, rfl⟩, ?_, ?_, ?_⟩
  · intros; trivial
  · rintro i x acc M' hx ⟨rfl, rfl⟩
    obtain ⟨z, hz, rfl⟩ := int_at hx
    have hi := lt_of_get hz
    walk_at "on"
    refine ⟨IntMulOk.of_le hfb2 (wb z (List.mem_of_getElem? hz)) (by decide), ?_⟩
    walk_at "on"
    refine ⟨updM_same, sz_of (m := 1000) (by rw [List.length_map, List.length_take]; omega) (by decide), _, .refl _, updM_updM, ?_⟩
    rw [take_succ' hz, List.map_append]; rfl
  rintro acc M' ⟨rfl, rfl⟩
  rw [List.length_map, List.take_length]
  have hacc : (ws.map fun w => PV.int (ff * w)) = (ws.map (ff * ·)).map PV.int := by rw [List.map_map]; rfl
  rw [hacc]
  walk_at "on"
  refine ⟨_, ws.map (ff * ·), rfl, .inr ⟨Dl, rfl, .inl updM_same⟩, by rw [List.length_map]; omega, fun rs3 hrs3 => ?_⟩
  have hp6 : updM M5 Dl (.lst ((ws.map (ff * ·)).map PV.int)) p = some (.lst (ws.map PV.int)) := by rw [updM_ne (neM hp5 hD)]; exact hp5
  have e6 := e5.new (o := .lst ((ws.map (ff * ·)).map PV.int)) hD
  have k6 : Keep s M (updM M5 Dl (.lst ((ws.map (ff * ·)).map PV.int))) := (k4.trans k5).trans (.new hD)
  generalize updM M5 Dl (.lst ((ws.map (ff * ·)).map PV.int)) = M6 at hp6 e6 k6
  walk_at "on"
  intro q6 hq6
  walk_at "on"
  refine ⟨q6, ws, rs3, rfl, .inl updM_same, hrs3.scale hf1, W.pos, wl, W.nn, wb, ?_⟩
  have hp7 : updM M6 q6 (.lst (ws.map PV.int)) p = some (.lst (ws.map PV.int)) := by rw [updM_ne (neM hp6 hq6)]; exact hp6
  have e7 := e6.new (o := .lst (ws.map PV.int)) hq6
  have k7 : Keep s M (updM M6 q6 (.lst (ws.map PV.int))) := k6.trans (.new hq6)
  generalize updM M6 q6 (.lst (ws.map PV.int)) = M7 at hp7 e7 k7
  walk_at "on"
  intro Dz hDz
  refine ⟨fun i acc M' => M' = updM M7 Dz (.lst acc) ∧ acc = (List.replicate i (PV.int 0)) ∧ i ≤ 64, ⟨_, .refl _, rfl, rfl, by decide⟩, ?_, ?_, ?_⟩
  · intros; trivial
  · rintro i x acc M' hx ⟨rfl, rfl, _⟩
    obtain ⟨z, hz, rfl⟩ := int_at hx
    have hi := lt_of_get hz
    walk_at "on"
    refine ⟨updM_same, sz_of (m := 1000) (by rw [List.length_replicate]; omega) (by decide), _, .refl _, updM_updM, ?_, by omega⟩
    rw [List.replicate_succ']
  rintro acc M' ⟨rfl, rfl, _⟩
  rw [List.length_map]
  have hz : List.replicate ws.length (PV.int 0) = (List.replicate ws.length (0 : Int)).map PV.int := by rw [List.map_replicate]
  rw [hz]
  have wp := W.pos
  walk_at "on"
  refine ⟨_, List.replicate ws.length 0, rfl, .inr ⟨Dz, rfl, .inl updM_same⟩, by rw [List.length_replicate]; omega, fun rs4 hrs4 => ?_⟩
  walk_at "on"
  refine ⟨Dz, _, rs4, rfl, .inl updM_same, hrs4, by rw [List.length_replicate]; exact wp, by rw [List.length_replicate]; exact wl, ?_, ?_, ?_⟩
  · intro w hw; rw [(List.mem_replicate.mp hw).2]; decide
  · intro w hw; rw [(List.mem_replicate.mp hw).2]; decide
  have hp8 : updM M7 Dz (.lst ((List.replicate ws.length (0 : Int)).map PV.int)) p = some (.lst (ws.map PV.int)) := by rw [updM_ne (neM hp7 hDz)]; exact hp7
  have e8 := e7.new (o := .lst ((List.replicate ws.length (0 : Int)).map PV.int)) hDz
  have k8 : Keep s M (updM M7 Dz (.lst ((List.replicate ws.length (0 : Int)).map PV.int))) := k7.trans (.new hDz)
  generalize updM M7 Dz (.lst ((List.replicate ws.length (0 : Int)).map PV.int)) = M8 at hp8 e8 k8
  walk_at "on"
  refine ⟨a, s, ns, _, rfl, e8, by rw [List.length_map]; omega, by rw [List.length_map]; exact bits_lt (by omega), fun j M9 hj0 hj1 e9 k9 => ?_⟩
  rw [List.length_map] at hj1
  have hp9 : M9 p = some (.lst (ws.map PV.int)) := k9 p _ ps hp8
  obtain ⟨z, hz1, hz2, hz3⟩ := at_ints hj0 hj1
  walk_at "on"
  refine ⟨_, _, hp9, ixN_in hj0 (by rw [List.length_map]; exact hj1), ?_⟩
  have hset : (ws.map PV.int).set j.toNat (.int (z + 1)) = (ws.set j.toNat (z + 1)).map PV.int := by rw [List.map_set]
  rw [hset]
  have kA : Keep s M (updM M9 p (.lst ((ws.set j.toNat (z + 1)).map PV.int))) := fun b u nb hb => by
    by_cases hbp : b = p
    · subst hbp; rw [hpM] at hb; cases hb
    · rw [updM_ne hbp]
      exact (k8.trans k9) b u nb hb
  have eA : Env K (updM M9 p (.lst ((ws.set j.toNat (z + 1)).map PV.int))) a s ns := e.keep e9 kA (updM_ne ps.symm)
  walk_at "on"
  refine ⟨_, ws.set j.toNat (z + 1), rfl, .inr ⟨p, rfl, .inl updM_same⟩, by rw [List.length_set]; omega, fun rs5 hrs5 => ?_⟩
  walk_at "on"
  have hpA : updM M9 p (.lst ((ws.set j.toNat (z + 1)).map PV.int)) p = some (.lst ((ws.set j.toNat (z + 1)).map PV.int)) := updM_same
  generalize updM M9 p (.lst ((ws.set j.toNat (z + 1)).map PV.int)) = MA at kA eA hpA
  walk_at "on"
  intro q9 hq9
  walk_at "on"
  refine ⟨q9, _, rs5, rfl, .inl updM_same, hrs5, by rw [List.length_set]; exact wp, by rw [List.length_set]; exact wl, ?_, ?_, ?_⟩
  · intro w hw
    rcases List.mem_or_eq_of_mem_set hw with h | h
    · exact W.nn w h
    · have := W.nn z hz1; omega
  · intro w hw
    rcases List.mem_or_eq_of_mem_set hw with h | h
    · exact wb w h
    · rw [h]; exact Nat.le_trans (intBits_add_le (W.bits z hz1) (n := 1) (by decide)) (by decide)
  exact ⟨_, .refl _, k _ (eA.new hq9) (kA.trans (.new hq9))⟩

theorem ok_law {P : Program} {w : World} {K : Kf} {mg : Str → Option Value} {base : Heap} {f : Addr} {fd : FuncData} (F : Fun K "law" "law" s_law f fd) (T : Blt mg) (Su : Sure P base) (C__law_fraction_told : Callee P w K mg base 37 "_law_fraction_told" ["script", "source"] (sp__law_fraction_told K)) (C__law_fractions_told : Callee P w K mg base 37 "_law_fractions_told" ["script", "source"] (sp__law_fractions_told K)) (C__law_source : Callee P w K mg base 34 "_law_source" ["script"] (sp__law_source K)) (C__law_weights_told : Callee P w K mg base 37 "_law_weights_told" ["script", "source"] (sp__law_weights_told K)) : FnOk P w K mg base CX0 38 f fd ["script"] (concF K (spLaw K)) := by
  refine law_of F sc_law (fun vs M Q E h => by obtain ⟨_, _, rfl, _⟩ := h; rfl) (fun f cdv A outer s H E hr => ⟨_, (psscons (psset 1 sc_law.nd (pcall C__law_source (by exact hr.mono (by decide)) (pacons (pv 0) panil)))
      (psscons (psfor PassesOwn.never rfl (pirng1 (by rfl) T.b_range (pacons pinT panil)) (pgname (i := 2) sc_law.nd) (psscons (psif (PW.pt (pwor (ptnot (ptval (pcall C__law_fraction_told (by exact hr.mono (by decide)) (pacons (pv 0) (pacons (pv 1) panil))))) (pwor1 (ptnot (ptval (pcall C__law_fractions_told (by exact hr.mono (by decide)) (pacons (pv 0) (pacons (pv 1) panil)))))))) (pssone (psret pbl)) pssnil)
      (pssone (psif (ptnot (ptval (pcall C__law_weights_told (by exact hr.mono (by decide)) (pacons (pv 0) (pacons (pv 1) panil))))) (pssone (psret pbl)) pssnil))))
      (pssone (psret pbl)))), fun vs M Q Ep h => ?_⟩)
  obtain ⟨a, ns, rfl, hrd, hlen, hbits, k⟩ := h
  walk_at "go"
  refine ⟨a, ns, rfl, hrd, fun s M1 m hs0 sb hs1 hm => ?_⟩
  have e1 := Env.first hrd hs0 sb hs1 hm hlen hbits
  have k0 : ∀ M', Keep s M1 M' → Sub M M' := fun M' kk b o hb => kk b o (neM hb hs0) (sb _ _ hb)
  walk_at "on"
  refine ⟨by decide, ?_⟩
  refine ⟨fun i σ M' => σ = [some (.ref a), some (.ref s), none] ∧ Env K M' a s ns ∧ Keep s M1 M', ⟨_, _, .refl _, .refl _, rfl, e1, .refl _ _⟩, ?_, ?_, ?_⟩
  · intros; trivial
  · rintro i x σ M' hx ⟨rfl, e2, k2⟩
    walk_at "on"
    refine ⟨a, s, ns, rfl, e2, fun M3 e3 k3 => ?_⟩
    walk_at "on"
    refine ⟨a, s, ns, rfl, e3, fun M4 e4 k4 => ?_⟩
    walk_at "on"
    refine ⟨a, s, ns, rfl, e4, fun M5 e5 k5 => ?_⟩
    walk_at "on"
    refine ⟨_, _, ?_, .refl _, rfl, e5, by walk_at "keep"⟩
    walk_at "subs"
  · rintro σ M' ⟨rfl, e2, k2⟩
    walk_at "on"
    exact ⟨M, k0 _ k2, k⟩

theorem all_mk {P : Program} {w : World} {K : Kf} {h : Heap} {mg : Str → Option Value} {fa f1 f2 f3 f4 f5 f6 f7 f8 f9 f10 f11 f12 f13 f14 f15 f16 f17 f18 f19 f20 f21 : Addr} (X : K.In h) (G : h.Ns mainGlobals mg) (hfa : mg "law" = some (.ref fa))
    {od1 an1 od2 an2 od3 an3 od4 an4 od5 an5 od6 an6 od7 an7 od8 an8 od9 an9 od10 an10 od11 an11 od12 an12 od13 an13 od14 an14 od15 an15 od16 an16 od17 an17 od18 an18 od19 an19 od20 an20 od21 an21 : Option Addr} {sl1 sl2 sl3 sl4 sl5 sl6 sl7 sl8 sl9 sl10 sl11 sl12 sl13 sl14 sl15 sl16 sl17 sl18 sl19 sl20 sl21 : Array (Option Value)} {oc1 kV1 dc1 pm1 cd1 ct1 oc2 kV2 dc2 pm2 cd2 ct2 oc3 kV3 dc3 pm3 cd3 ct3 oc4 kV4 dc4 pm4 cd4 ct4 oc5 kV5 dc5 pm5 cd5 ct5 oc6 kV6 dc6 pm6 cd6 ct6 oc7 kV7 dc7 pm7 cd7 ct7 oc8 kV8 dc8 pm8 cd8 ct8 oc9 kV9 dc9 pm9 cd9 ct9 oc10 kV10 dc10 pm10 cd10 ct10 oc11 kV11 dc11 pm11 cd11 ct11 oc12 kV12 dc12 pm12 cd12 ct12 oc13 kV13 dc13 pm13 cd13 ct13 oc14 kV14 dc14 pm14 cd14 ct14 oc15 kV15 dc15 pm15 cd15 ct15 oc16 kV16 dc16 pm16 cd16 ct16 oc17 kV17 dc17 pm17 cd17 ct17 oc18 kV18 dc18 pm18 cd18 ct18 oc19 kV19 dc19 pm19 cd19 ct19 oc20 kV20 dc20 pm20 cd20 ct20 oc21 kV21 dc21 pm21 cd21 ct21 : Value}
    (a1 : PySem.W.nsIn K mainGlobals "_law_draw" = some (some (.ref f1))) (l1 : K.lookup f1 = some ⟨oc1, od1, .func (PySem.W.fnOf "_law_draw" "_law_draw" (defArgs s__law_draw) (defBody s__law_draw) (defScope s__law_draw) .none kV1 dc1 pm1 an1 cd1 ct1), sl1⟩) (c1 : PySem.W.codeIn K cd1 "_law_draw" = true) (k1 : PySem.W.keepIn K (.ref f1) = true)
    (a2 : PySem.W.nsIn K mainGlobals "_law_source" = some (some (.ref f2))) (l2 : K.lookup f2 = some ⟨oc2, od2, .func (PySem.W.fnOf "_law_source" "_law_source" (defArgs s__law_source) (defBody s__law_source) (defScope s__law_source) .none kV2 dc2 pm2 an2 cd2 ct2), sl2⟩) (c2 : PySem.W.codeIn K cd2 "_law_source" = true) (k2 : PySem.W.keepIn K (.ref f2) = true)
    (a3 : PySem.W.nsIn K mainGlobals "_law_gcd" = some (some (.ref f3))) (l3 : K.lookup f3 = some ⟨oc3, od3, .func (PySem.W.fnOf "_law_gcd" "_law_gcd" (defArgs s__law_gcd) (defBody s__law_gcd) (defScope s__law_gcd) .none kV3 dc3 pm3 an3 cd3 ct3), sl3⟩) (c3 : PySem.W.codeIn K cd3 "_law_gcd" = true) (k3 : PySem.W.keepIn K (.ref f3) = true)
    (a4 : PySem.W.nsIn K mainGlobals "_law_whole" = some (some (.ref f4))) (l4 : K.lookup f4 = some ⟨oc4, od4, .func (PySem.W.fnOf "_law_whole" "_law_whole" (defArgs s__law_whole) (defBody s__law_whole) (defScope s__law_whole) .none kV4 dc4 pm4 an4 cd4 ct4), sl4⟩) (c4 : PySem.W.codeIn K cd4 "_law_whole" = true) (k4 : PySem.W.keepIn K (.ref f4) = true)
    (a5 : PySem.W.nsIn K mainGlobals "fraction" = some (some (.ref f5))) (l5 : K.lookup f5 = some ⟨oc5, od5, .func (PySem.W.fnOf "fraction" "fraction" (defArgs s_fraction) (defBody s_fraction) (defScope s_fraction) .none kV5 dc5 pm5 an5 cd5 ct5), sl5⟩) (c5 : PySem.W.codeIn K cd5 "fraction" = true) (k5 : PySem.W.keepIn K (.ref f5) = true)
    (a6 : PySem.W.nsIn K mainGlobals "plus" = some (some (.ref f6))) (l6 : K.lookup f6 = some ⟨oc6, od6, .func (PySem.W.fnOf "plus" "plus" (defArgs s_plus) (defBody s_plus) (defScope s_plus) .none kV6 dc6 pm6 an6 cd6 ct6), sl6⟩) (c6 : PySem.W.codeIn K cd6 "plus" = true) (k6 : PySem.W.keepIn K (.ref f6) = true)
    (a7 : PySem.W.nsIn K mainGlobals "times" = some (some (.ref f7))) (l7 : K.lookup f7 = some ⟨oc7, od7, .func (PySem.W.fnOf "times" "times" (defArgs s_times) (defBody s_times) (defScope s_times) .none kV7 dc7 pm7 an7 cd7 ct7), sl7⟩) (c7 : PySem.W.codeIn K cd7 "times" = true) (k7 : PySem.W.keepIn K (.ref f7) = true)
    (a8 : PySem.W.nsIn K mainGlobals "is_less" = some (some (.ref f8))) (l8 : K.lookup f8 = some ⟨oc8, od8, .func (PySem.W.fnOf "is_less" "is_less" (defArgs s_is_less) (defBody s_is_less) (defScope s_is_less) .none kV8 dc8 pm8 an8 cd8 ct8), sl8⟩) (c8 : PySem.W.codeIn K cd8 "is_less" = true) (k8 : PySem.W.keepIn K (.ref f8) = true)
    (a9 : PySem.W.nsIn K mainGlobals "_law_number" = some (some (.ref f9))) (l9 : K.lookup f9 = some ⟨oc9, od9, .func (PySem.W.fnOf "_law_number" "_law_number" (defArgs s__law_number) (defBody s__law_number) (defScope s__law_number) .none kV9 dc9 pm9 an9 cd9 ct9), sl9⟩) (c9 : PySem.W.codeIn K cd9 "_law_number" = true) (k9 : PySem.W.keepIn K (.ref f9) = true)
    (a10 : PySem.W.nsIn K mainGlobals "_law_bottom" = some (some (.ref f10))) (l10 : K.lookup f10 = some ⟨oc10, od10, .func (PySem.W.fnOf "_law_bottom" "_law_bottom" (defArgs s__law_bottom) (defBody s__law_bottom) (defScope s__law_bottom) .none kV10 dc10 pm10 an10 cd10 ct10), sl10⟩) (c10 : PySem.W.codeIn K cd10 "_law_bottom" = true) (k10 : PySem.W.keepIn K (.ref f10) = true)
    (a11 : PySem.W.nsIn K mainGlobals "_law_is_fraction" = some (some (.ref f11))) (l11 : K.lookup f11 = some ⟨oc11, od11, .func (PySem.W.fnOf "_law_is_fraction" "_law_is_fraction" (defArgs s__law_is_fraction) (defBody s__law_is_fraction) (defScope s__law_is_fraction) .none kV11 dc11 pm11 an11 cd11 ct11), sl11⟩) (c11 : PySem.W.codeIn K cd11 "_law_is_fraction" = true) (k11 : PySem.W.keepIn K (.ref f11) = true)
    (a12 : PySem.W.nsIn K mainGlobals "_law_lowest" = some (some (.ref f12))) (l12 : K.lookup f12 = some ⟨oc12, od12, .func (PySem.W.fnOf "_law_lowest" "_law_lowest" (defArgs s__law_lowest) (defBody s__law_lowest) (defScope s__law_lowest) .none kV12 dc12 pm12 an12 cd12 ct12), sl12⟩) (c12 : PySem.W.codeIn K cd12 "_law_lowest" = true) (k12 : PySem.W.keepIn K (.ref f12) = true)
    (a13 : PySem.W.nsIn K mainGlobals "_law_less_told" = some (some (.ref f13))) (l13 : K.lookup f13 = some ⟨oc13, od13, .func (PySem.W.fnOf "_law_less_told" "_law_less_told" (defArgs s__law_less_told) (defBody s__law_less_told) (defScope s__law_less_told) .none kV13 dc13 pm13 an13 cd13 ct13), sl13⟩) (c13 : PySem.W.codeIn K cd13 "_law_less_told" = true) (k13 : PySem.W.keepIn K (.ref f13) = true)
    (a14 : PySem.W.nsIn K mainGlobals "_law_pair_told" = some (some (.ref f14))) (l14 : K.lookup f14 = some ⟨oc14, od14, .func (PySem.W.fnOf "_law_pair_told" "_law_pair_told" (defArgs s__law_pair_told) (defBody s__law_pair_told) (defScope s__law_pair_told) .none kV14 dc14 pm14 an14 cd14 ct14), sl14⟩) (c14 : PySem.W.codeIn K cd14 "_law_pair_told" = true) (k14 : PySem.W.keepIn K (.ref f14) = true)
    (a15 : PySem.W.nsIn K mainGlobals "_law_fraction_told" = some (some (.ref f15))) (l15 : K.lookup f15 = some ⟨oc15, od15, .func (PySem.W.fnOf "_law_fraction_told" "_law_fraction_told" (defArgs s__law_fraction_told) (defBody s__law_fraction_told) (defScope s__law_fraction_told) .none kV15 dc15 pm15 an15 cd15 ct15), sl15⟩) (c15 : PySem.W.codeIn K cd15 "_law_fraction_told" = true) (k15 : PySem.W.keepIn K (.ref f15) = true)
    (a16 : PySem.W.nsIn K mainGlobals "_law_fractions_told" = some (some (.ref f16))) (l16 : K.lookup f16 = some ⟨oc16, od16, .func (PySem.W.fnOf "_law_fractions_told" "_law_fractions_told" (defArgs s__law_fractions_told) (defBody s__law_fractions_told) (defScope s__law_fractions_told) .none kV16 dc16 pm16 an16 cd16 ct16), sl16⟩) (c16 : PySem.W.codeIn K cd16 "_law_fractions_told" = true) (k16 : PySem.W.keepIn K (.ref f16) = true)
    (a17 : PySem.W.nsIn K mainGlobals "reduced" = some (some (.ref f17))) (l17 : K.lookup f17 = some ⟨oc17, od17, .func (PySem.W.fnOf "reduced" "reduced" (defArgs s_reduced) (defBody s_reduced) (defScope s_reduced) .none kV17 dc17 pm17 an17 cd17 ct17), sl17⟩) (c17 : PySem.W.codeIn K cd17 "reduced" = true) (k17 : PySem.W.keepIn K (.ref f17) = true)
    (a18 : PySem.W.nsIn K mainGlobals "_law_weights" = some (some (.ref f18))) (l18 : K.lookup f18 = some ⟨oc18, od18, .func (PySem.W.fnOf "_law_weights" "_law_weights" (defArgs s__law_weights) (defBody s__law_weights) (defScope s__law_weights) .none kV18 dc18 pm18 an18 cd18 ct18), sl18⟩) (c18 : PySem.W.codeIn K cd18 "_law_weights" = true) (k18 : PySem.W.keepIn K (.ref f18) = true)
    (a19 : PySem.W.nsIn K mainGlobals "_law_is_reduced" = some (some (.ref f19))) (l19 : K.lookup f19 = some ⟨oc19, od19, .func (PySem.W.fnOf "_law_is_reduced" "_law_is_reduced" (defArgs s__law_is_reduced) (defBody s__law_is_reduced) (defScope s__law_is_reduced) .none kV19 dc19 pm19 an19 cd19 ct19), sl19⟩) (c19 : PySem.W.codeIn K cd19 "_law_is_reduced" = true) (k19 : PySem.W.keepIn K (.ref f19) = true)
    (a20 : PySem.W.nsIn K mainGlobals "_law_weights_told" = some (some (.ref f20))) (l20 : K.lookup f20 = some ⟨oc20, od20, .func (PySem.W.fnOf "_law_weights_told" "_law_weights_told" (defArgs s__law_weights_told) (defBody s__law_weights_told) (defScope s__law_weights_told) .none kV20 dc20 pm20 an20 cd20 ct20), sl20⟩) (c20 : PySem.W.codeIn K cd20 "_law_weights_told" = true) (k20 : PySem.W.keepIn K (.ref f20) = true)
    (a21 : PySem.W.nsIn K mainGlobals "law" = some (some (.ref f21))) (l21 : K.lookup f21 = some ⟨oc21, od21, .func (PySem.W.fnOf "law" "law" (defArgs s_law) (defBody s_law) (defScope s_law) .none kV21 dc21 pm21 an21 cd21 ct21), sl21⟩) (c21 : PySem.W.codeIn K cd21 "law" = true) (k21 : PySem.W.keepIn K (.ref f21) = true)
    (z_abs : PySem.W.nsIn K mainGlobals "abs" = some none)
    (z_bool : PySem.W.nsIn K mainGlobals "bool" = some none)
    (z_int : PySem.W.nsIn K mainGlobals "int" = some none)
    (z_isinstance : PySem.W.nsIn K mainGlobals "isinstance" = some none)
    (z_len : PySem.W.nsIn K mainGlobals "len" = some none)
    (z_list : PySem.W.nsIn K mainGlobals "list" = some none)
    (z_max : PySem.W.nsIn K mainGlobals "max" = some none)
    (z_range : PySem.W.nsIn K mainGlobals "range" = some none)
    (z_tuple : PySem.W.nsIn K mainGlobals "tuple" = some none)
    (y_gcd : PySem.W.nsIn K mainGlobals "gcd" = some (some (.builtin "math.gcd")))
    : ∃ fd : FuncData, (∀ (s : Shared) (v : Value), BindsTo s fd ⟨[v], []⟩ [("script", v)]) ∧ ∀ base : Heap, K.In base → base.Ns mainGlobals mg → Sure P base → FnOk P w K mg base CX0 38 fa fd ["script"] (concF K (spLaw K)) := by
  have e := hfa.symm.trans (PySem.W.mg_of X G a21)
  cases e
  have T : Blt mg := ⟨PySem.W.mg_none_of X G z_abs, PySem.W.mg_none_of X G z_bool, PySem.W.mg_none_of X G z_int, PySem.W.mg_none_of X G z_isinstance, PySem.W.mg_none_of X G z_len, PySem.W.mg_none_of X G z_list, PySem.W.mg_none_of X G z_max, PySem.W.mg_none_of X G z_range, PySem.W.mg_none_of X G z_tuple, PySem.W.mg_of X G y_gcd⟩
  have H__law_draw : Here K mg "_law_draw" s__law_draw ["script", "source", "limit"] := here_of X G a1 l1 c1 k1 fun _ _ _ _ _ _ us hl => match us, hl with | [_, _, _], _ => rfl
  have H__law_source : Here K mg "_law_source" s__law_source ["script"] := here_of X G a2 l2 c2 k2 fun _ _ _ _ _ _ us hl => match us, hl with | [_], _ => rfl
  have H__law_gcd : Here K mg "_law_gcd" s__law_gcd ["a", "b"] := here_of X G a3 l3 c3 k3 fun _ _ _ _ _ _ us hl => match us, hl with | [_, _], _ => rfl
  have H__law_whole : Here K mg "_law_whole" s__law_whole ["item"] := here_of X G a4 l4 c4 k4 fun _ _ _ _ _ _ us hl => match us, hl with | [_], _ => rfl
  have H_fraction : Here K mg "fraction" s_fraction ["top", "bottom"] := here_of X G a5 l5 c5 k5 fun _ _ _ _ _ _ us hl => match us, hl with | [_, _], _ => rfl
  have H_plus : Here K mg "plus" s_plus ["left", "right"] := here_of X G a6 l6 c6 k6 fun _ _ _ _ _ _ us hl => match us, hl with | [_, _], _ => rfl
  have H_times : Here K mg "times" s_times ["left", "right"] := here_of X G a7 l7 c7 k7 fun _ _ _ _ _ _ us hl => match us, hl with | [_, _], _ => rfl
  have H_is_less : Here K mg "is_less" s_is_less ["left", "right"] := here_of X G a8 l8 c8 k8 fun _ _ _ _ _ _ us hl => match us, hl with | [_, _], _ => rfl
  have H__law_number : Here K mg "_law_number" s__law_number ["script", "source"] := here_of X G a9 l9 c9 k9 fun _ _ _ _ _ _ us hl => match us, hl with | [_, _], _ => rfl
  have H__law_bottom : Here K mg "_law_bottom" s__law_bottom ["script", "source"] := here_of X G a10 l10 c10 k10 fun _ _ _ _ _ _ us hl => match us, hl with | [_, _], _ => rfl
  have H__law_is_fraction : Here K mg "_law_is_fraction" s__law_is_fraction ["told", "top", "bottom"] := here_of X G a11 l11 c11 k11 fun _ _ _ _ _ _ us hl => match us, hl with | [_, _, _], _ => rfl
  have H__law_lowest : Here K mg "_law_lowest" s__law_lowest ["top", "bottom"] := here_of X G a12 l12 c12 k12 fun _ _ _ _ _ _ us hl => match us, hl with | [_, _], _ => rfl
  have H__law_less_told : Here K mg "_law_less_told" s__law_less_told ["left", "right"] := here_of X G a13 l13 c13 k13 fun _ _ _ _ _ _ us hl => match us, hl with | [_, _], _ => rfl
  have H__law_pair_told : Here K mg "_law_pair_told" s__law_pair_told ["left", "right"] := here_of X G a14 l14 c14 k14 fun _ _ _ _ _ _ us hl => match us, hl with | [_, _], _ => rfl
  have H__law_fraction_told : Here K mg "_law_fraction_told" s__law_fraction_told ["script", "source"] := here_of X G a15 l15 c15 k15 fun _ _ _ _ _ _ us hl => match us, hl with | [_, _], _ => rfl
  have H__law_fractions_told : Here K mg "_law_fractions_told" s__law_fractions_told ["script", "source"] := here_of X G a16 l16 c16 k16 fun _ _ _ _ _ _ us hl => match us, hl with | [_, _], _ => rfl
  have H_reduced : Here K mg "reduced" s_reduced ["weights"] := here_of X G a17 l17 c17 k17 fun _ _ _ _ _ _ us hl => match us, hl with | [_], _ => rfl
  have H__law_weights : Here K mg "_law_weights" s__law_weights ["script", "source"] := here_of X G a18 l18 c18 k18 fun _ _ _ _ _ _ us hl => match us, hl with | [_, _], _ => rfl
  have H__law_is_reduced : Here K mg "_law_is_reduced" s__law_is_reduced ["told", "weights"] := here_of X G a19 l19 c19 k19 fun _ _ _ _ _ _ us hl => match us, hl with | [_, _], _ => rfl
  have H__law_weights_told : Here K mg "_law_weights_told" s__law_weights_told ["script", "source"] := here_of X G a20 l20 c20 k20 fun _ _ _ _ _ _ us hl => match us, hl with | [_, _], _ => rfl
  refine ⟨PySem.W.fnOf "law" "law" (defArgs s_law) (defBody s_law) (defScope s_law) .none kV21 dc21 pm21 an21 cd21 ct21, fun s v => .of_eq rfl, fun base _ _ Su => ?_⟩
  have C__law_draw := ok__law_draw (P := P) (w := w) (base := base) H__law_draw T Su 
  have C__law_source := ok__law_source (P := P) (w := w) (base := base) H__law_source T Su 
  have C__law_gcd := ok__law_gcd (P := P) (w := w) (base := base) H__law_gcd T Su 
  have C__law_whole := ok__law_whole (P := P) (w := w) (base := base) H__law_whole T Su 
  have C_fraction := ok_fraction (P := P) (w := w) (base := base) H_fraction T Su 
  have C_plus := ok_plus (P := P) (w := w) (base := base) H_plus T Su C_fraction
  have C_times := ok_times (P := P) (w := w) (base := base) H_times T Su C_fraction
  have C_is_less := ok_is_less (P := P) (w := w) (base := base) H_is_less T Su 
  have C__law_number := ok__law_number (P := P) (w := w) (base := base) H__law_number T Su C__law_draw
  have C__law_bottom := ok__law_bottom (P := P) (w := w) (base := base) H__law_bottom T Su C__law_number
  have C__law_is_fraction := ok__law_is_fraction (P := P) (w := w) (base := base) H__law_is_fraction T Su C__law_gcd C__law_whole
  have C__law_lowest := ok__law_lowest (P := P) (w := w) (base := base) H__law_lowest T Su C__law_gcd
  have C__law_less_told := ok__law_less_told (P := P) (w := w) (base := base) H__law_less_told T Su C_is_less
  have C__law_pair_told := ok__law_pair_told (P := P) (w := w) (base := base) H__law_pair_told T Su C__law_is_fraction C__law_less_told C_plus C_times
  have C__law_fraction_told := ok__law_fraction_told (P := P) (w := w) (base := base) H__law_fraction_told T Su C__law_bottom C__law_is_fraction C__law_number C_fraction
  have C__law_fractions_told := ok__law_fractions_told (P := P) (w := w) (base := base) H__law_fractions_told T Su C__law_bottom C__law_draw C__law_is_fraction C__law_less_told C__law_lowest C__law_number C__law_pair_told C_plus C_times
  have C_reduced := ok_reduced (P := P) (w := w) (base := base) H_reduced T Su 
  have C__law_weights := ok__law_weights (P := P) (w := w) (base := base) H__law_weights T Su C__law_draw C__law_number
  have C__law_is_reduced := ok__law_is_reduced (P := P) (w := w) (base := base) H__law_is_reduced T Su C__law_gcd C__law_whole
  have C__law_weights_told := ok__law_weights_told (P := P) (w := w) (base := base) H__law_weights_told T Su C__law_bottom C__law_draw C__law_is_reduced C__law_weights C_reduced
  exact ok_law (fun_mk (st := s_law) l21 c21 k21) T Su C__law_fraction_told C__law_fractions_told C__law_source C__law_weights_told
end PL
open PySem PySem.W PyProof.Rows
set_option maxHeartbeats 0 in
theorem PySem.Challenge.cw_toldotherwise_k06_fractions_and_weights_holds : PySem.Challenge.rw_toldotherwise_k06_fractions_and_weights.Holds := by
  w_on; o_law; k_head; (case hw => w_witness2)
  k_fill
  refine PL.walkP (l := PySem.Challenge.rw_toldotherwise_k06_fractions_and_weights) (k := 38) (x := "script") rfl rfl ⟨rfl, by decide, by decide⟩ rfl rfl (fun w h Y => PySem.W.kIn_of Y) ?F
  case F =>
    intro w mg fa h KX G hmg
    refine' PL.all_mk KX G hmg ?a1 ?l1 ?c1 ?k1 ?a2 ?l2 ?c2 ?k2 ?a3 ?l3 ?c3 ?k3 ?a4 ?l4 ?c4 ?k4 ?a5 ?l5 ?c5 ?k5 ?a6 ?l6 ?c6 ?k6 ?a7 ?l7 ?c7 ?k7 ?a8 ?l8 ?c8 ?k8 ?a9 ?l9 ?c9 ?k9 ?a10 ?l10 ?c10 ?k10 ?a11 ?l11 ?c11 ?k11 ?a12 ?l12 ?c12 ?k12 ?a13 ?l13 ?c13 ?k13 ?a14 ?l14 ?c14 ?k14 ?a15 ?l15 ?c15 ?k15 ?a16 ?l16 ?c16 ?k16 ?a17 ?l17 ?c17 ?k17 ?a18 ?l18 ?c18 ?k18 ?a19 ?l19 ?c19 ?k19 ?a20 ?l20 ?c20 ?k20 ?a21 ?l21 ?c21 ?k21 ?z_abs ?z_bool ?z_int ?z_isinstance ?z_len ?z_list ?z_max ?z_range ?z_tuple ?y_gcd
    (case a1 => k_is); (case l1 => k_is); (case c1 => k_is); (case k1 => k_is); (case a2 => k_is); (case l2 => k_is); (case c2 => k_is); (case k2 => k_is); (case a3 => k_is); (case l3 => k_is); (case c3 => k_is); (case k3 => k_is); (case a4 => k_is); (case l4 => k_is); (case c4 => k_is); (case k4 => k_is); (case a5 => k_is); (case l5 => k_is); (case c5 => k_is); (case k5 => k_is); (case a6 => k_is); (case l6 => k_is); (case c6 => k_is); (case k6 => k_is); (case a7 => k_is); (case l7 => k_is); (case c7 => k_is); (case k7 => k_is); (case a8 => k_is); (case l8 => k_is); (case c8 => k_is); (case k8 => k_is); (case a9 => k_is); (case l9 => k_is); (case c9 => k_is); (case k9 => k_is); (case a10 => k_is); (case l10 => k_is); (case c10 => k_is); (case k10 => k_is); (case a11 => k_is); (case l11 => k_is); (case c11 => k_is); (case k11 => k_is); (case a12 => k_is); (case l12 => k_is); (case c12 => k_is); (case k12 => k_is); (case a13 => k_is); (case l13 => k_is); (case c13 => k_is); (case k13 => k_is); (case a14 => k_is); (case l14 => k_is); (case c14 => k_is); (case k14 => k_is); (case a15 => k_is); (case l15 => k_is); (case c15 => k_is); (case k15 => k_is); (case a16 => k_is); (case l16 => k_is); (case c16 => k_is); (case k16 => k_is); (case a17 => k_is); (case l17 => k_is); (case c17 => k_is); (case k17 => k_is); (case a18 => k_is); (case l18 => k_is); (case c18 => k_is); (case k18 => k_is); (case a19 => k_is); (case l19 => k_is); (case c19 => k_is); (case k19 => k_is); (case a20 => k_is); (case l20 => k_is); (case c20 => k_is); (case k20 => k_is); (case a21 => k_is); (case l21 => k_is); (case c21 => k_is); (case k21 => k_is); (case z_abs => k_is); (case z_bool => k_is); (case z_int => k_is); (case z_isinstance => k_is); (case z_len => k_is); (case z_list => k_is); (case z_max => k_is); (case z_range => k_is); (case z_tuple => k_is); (case y_gcd => k_is)
