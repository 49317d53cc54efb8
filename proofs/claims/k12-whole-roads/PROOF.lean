import PyProof.Rows.All
import Wide.All
import OpenK.AllK
import Wide.FinOn
import HandS.ForMost
import HandS.Conv
import HandS.SortOrd
import HandS.SortRule
import HandS.DictTup
import HandS.Walk
import HandS.Zip
import KE.GoesEnum
import HandS.More
import HandS.TupAny
import HandS.TupLe
import HandS.TupMul
import HandS.SetKeys
import HandS.Style
import KE.KDictZip
import PyProof.SumWalkG
import HandS.Exc
import HandS.ExcOwn
import HandS.WordsExc
import HandS.TryOnly
import HandS.ExcIs
import HandS.IsInst
import PySem.Challenge.RW_spinfield_k12_whole_roads
set_option Elab.async false
set_option linter.all false
set_option maxRecDepth 100000
/-! # Polynomials as lists of terms: readings, the one canonical list, sizes -/
namespace SF
abbrev Ex := Int × Int
abbrev Poly := List (Ex × Int)
/-- the reading of a polynomial by a weight of its exponents -/
def ev (p : Poly) (f : Ex → Int) : Int := match p with
  | [] => 0
  | t :: r => t.2 * f t.1 + ev r f
@[simp] theorem ev_nil (f : Ex → Int) : ev [] f = 0 := rfl
@[simp] theorem ev_cons (t : Ex × Int) (p : Poly) (f : Ex → Int) : ev (t :: p) f = t.2 * f t.1 + ev p f := rfl
theorem ev_append (p q : Poly) (f : Ex → Int) : ev (p ++ q) f = ev p f + ev q f := by
  induction p with
  | nil => simp
  | cons t r ih => simp only [List.cons_append, ev_cons, ih]; omega
theorem ev_perm {p q : Poly} (h : p.Perm q) (f : Ex → Int) : ev p f = ev q f := by
  induction h with
  | nil => rfl
  | cons x _ ih => simp only [ev_cons, ih]
  | swap x y l => simp only [ev_cons]; omega
  | trans _ _ a b => rw [a, b]
theorem ev_congr {f g : Ex → Int} (p : Poly) (h : ∀ e, f e = g e) : ev p f = ev p g := by
  induction p with
  | nil => rfl
  | cons t r ih => simp only [ev_cons, h, ih]
theorem ev_congr_mem {f g : Ex → Int} : ∀ (p : Poly), (∀ t ∈ p, f t.1 = g t.1) → ev p f = ev p g
  | [], _ => rfl
  | t :: r, h => by
    simp only [ev_cons]
    rw [h t (List.mem_cons_self), ev_congr_mem r fun x hx => h x (List.mem_cons_of_mem _ hx)]
theorem ev_add (p : Poly) (f g : Ex → Int) : ev p (fun e => f e + g e) = ev p f + ev p g := by
  induction p with
  | nil => rfl
  | cons t r ih => simp only [ev_cons, ih]; grind
theorem ev_sub (p : Poly) (f g : Ex → Int) : ev p (fun e => f e - g e) = ev p f - ev p g := by
  induction p with
  | nil => rfl
  | cons t r ih => simp only [ev_cons, ih]; grind
theorem ev_smul (p : Poly) (k : Int) (f : Ex → Int) : ev p (fun e => k * f e) = k * ev p f := by
  induction p with
  | nil => simp
  | cons t r ih => simp only [ev_cons, ih]; grind
theorem ev_zero (p : Poly) : ev p (fun _ => 0) = 0 := by
  induction p with
  | nil => rfl
  | cons t r ih => simp only [ev_cons, ih]; omega
/-- sums over a list -/
def sm {α : Type} (l : List α) (F : α → Int) : Int := match l with
  | [] => 0
  | a :: r => F a + sm r F
@[simp] theorem sm_nil {α : Type} (F : α → Int) : sm [] F = 0 := rfl
@[simp] theorem sm_cons {α : Type} (a : α) (l : List α) (F : α → Int) : sm (a :: l) F = F a + sm l F := rfl
theorem sm_append {α : Type} (l m : List α) (F : α → Int) : sm (l ++ m) F = sm l F + sm m F := by
  induction l with
  | nil => simp
  | cons t r ih => simp only [List.cons_append, sm_cons, ih]; omega
theorem sm_congr {α : Type} {F G : α → Int} : ∀ (l : List α), (∀ a ∈ l, F a = G a) → sm l F = sm l G
  | [], _ => rfl
  | a :: r, h => by
    simp only [sm_cons]
    rw [h a List.mem_cons_self, sm_congr r fun x hx => h x (List.mem_cons_of_mem _ hx)]
theorem sm_add {α : Type} (l : List α) (F G : α → Int) : sm l (fun a => F a + G a) = sm l F + sm l G := by
  induction l with
  | nil => rfl
  | cons t r ih => simp only [sm_cons, ih]; omega
theorem sm_smul {α : Type} (l : List α) (k : Int) (F : α → Int) : sm l (fun a => k * F a) = k * sm l F := by
  induction l with
  | nil => simp
  | cons t r ih => simp only [sm_cons, ih]; grind
theorem sm_zero {α : Type} (l : List α) : sm l (fun _ => 0) = 0 := by
  induction l with
  | nil => rfl
  | cons t r ih => simp only [sm_cons, ih]; omega
theorem sm_map {α β : Type} (g : α → β) (l : List α) (F : β → Int) : sm (l.map g) F = sm l fun a => F (g a) := by
  induction l with
  | nil => rfl
  | cons t r ih => simp only [List.map_cons, sm_cons, ih]
theorem sm_le {α : Type} {F G : α → Int} : ∀ (l : List α), (∀ a ∈ l, F a ≤ G a) → sm l F ≤ sm l G
  | [], _ => Int.le_refl _
  | a :: r, h => by
    simp only [sm_cons]
    have := h a List.mem_cons_self
    have := sm_le r fun x hx => h x (List.mem_cons_of_mem _ hx)
    omega
theorem sm_perm {α : Type} {l m : List α} (h : l.Perm m) (F : α → Int) : sm l F = sm m F := by
  induction h with
  | nil => rfl
  | cons x _ ih => simp only [sm_cons, ih]
  | swap x y l => simp only [sm_cons]; omega
  | trans _ _ a b => rw [a, b]
theorem sm_swap {α β : Type} (l : List α) (m : List β) (F : α → β → Int) : sm l (fun a => sm m (F a)) = sm m (fun b => sm l fun a => F a b) := by
  induction l with
  | nil => simp only [sm_nil]; rw [sm_zero]
  | cons t r ih => simp only [sm_cons, ih]; rw [sm_add]
theorem sm_ge_mem {α : Type} {F : α → Int} : ∀ {l : List α} {a : α}, a ∈ l → (∀ b ∈ l, 0 ≤ F b) → F a ≤ sm l F
  | [], _, h, _ => by cases h
  | x :: r, a, h, hp => by
    simp only [sm_cons]
    have h0 := hp x List.mem_cons_self
    have hr : 0 ≤ sm r F := by
      have := sm_le (F := fun _ => 0) (G := F) r fun y hy => hp y (List.mem_cons_of_mem _ hy)
      rw [sm_zero] at this
      exact this
    rcases List.mem_cons.mp h with e | e
    · subst e; omega
    · have := sm_ge_mem e fun y hy => hp y (List.mem_cons_of_mem _ hy)
      omega
/-- a polynomial's reading of a sum -/
theorem ev_sm {α : Type} (p : Poly) (l : List α) (F : α → Ex → Int) : ev p (fun e => sm l fun a => F a e) = sm l fun a => ev p (F a) := by
  induction p with
  | nil => simp only [ev_nil]; rw [sm_zero]
  | cons t r ih => simp only [ev_cons, ih]; rw [sm_add, sm_smul]
/-! ### the order of exponents, canonical lists -/
def lt2 (a b : Ex) : Prop := a.1 < b.1 ∨ (a.1 = b.1 ∧ a.2 < b.2)
instance (a b : Ex) : Decidable (lt2 a b) := inferInstanceAs (Decidable (_ ∨ _))
theorem lt2_irr (a : Ex) : ¬ lt2 a a := by unfold lt2; omega
theorem lt2_trans {a b c : Ex} (h : lt2 a b) (g : lt2 b c) : lt2 a c := by unfold lt2 at *; omega
theorem lt2_tri (a b : Ex) : lt2 a b ∨ a = b ∨ lt2 b a := by
  obtain ⟨a1, a2⟩ := a
  obtain ⟨b1, b2⟩ := b
  simp only [lt2, Prod.mk.injEq]
  omega
theorem lt2_ne {a b : Ex} (h : lt2 a b) : a ≠ b := fun e => by subst e; exact lt2_irr _ h
structure Canon (p : Poly) : Prop where
  asc : p.Pairwise fun x y => lt2 x.1 y.1
  nz : ∀ x ∈ p, x.2 ≠ 0
def ind (e : Ex) : Ex → Int := fun x => if x = e then 1 else 0
theorem ev_ind_zero {e : Ex} : ∀ {p : Poly}, (∀ x ∈ p, x.1 ≠ e) → ev p (ind e) = 0
  | [], _ => rfl
  | t :: r, h => by
    simp only [ev_cons]
    rw [ev_ind_zero fun x hx => h x (List.mem_cons_of_mem _ hx)]
    have := h t List.mem_cons_self
    simp [ind, this]
theorem Canon.tail {t : Ex × Int} {p : Poly} (h : Canon (t :: p)) : Canon p :=
  ⟨(List.pairwise_cons.mp h.asc).2, fun x hx => h.nz x (List.mem_cons_of_mem _ hx)⟩
theorem Canon.head {t : Ex × Int} {p : Poly} (h : Canon (t :: p)) : ∀ x ∈ p, lt2 t.1 x.1 := (List.pairwise_cons.mp h.asc).1
theorem Canon.ev_head {t : Ex × Int} {p : Poly} (h : Canon (t :: p)) : ev (t :: p) (ind t.1) = t.2 := by
  rw [ev_cons, ev_ind_zero fun x hx e => lt2_ne (h.head x hx) e.symm]
  simp [ind]
theorem canon_uniq : ∀ {p q : Poly}, Canon p → Canon q → (∀ f, ev p f = ev q f) → p = q
  | [], [], _, _, _ => rfl
  | [], t :: q, _, hq, h => by
    have := h (ind t.1)
    rw [hq.ev_head] at this
    exact absurd this.symm (hq.nz t List.mem_cons_self)
  | t :: p, [], hp, _, h => by
    have := h (ind t.1)
    rw [hp.ev_head] at this
    exact absurd this (hp.nz t List.mem_cons_self)
  | t :: p, u :: q, hp, hq, h => by
    have key : ∀ {t u : Ex × Int} {p q : Poly}, Canon (t :: p) → Canon (u :: q) → (∀ f, ev (t :: p) f = ev (u :: q) f) → ¬ lt2 t.1 u.1 := fun {t u p q} hp hq h l => by
      have e := h (ind t.1)
      rw [hp.ev_head, ev_ind_zero (p := u :: q) fun x hx => ?_] at e
      · exact hp.nz t List.mem_cons_self e
      · rcases List.mem_cons.mp hx with r | r
        · subst r; exact fun e => lt2_ne l e.symm
        · exact fun e => lt2_ne (lt2_trans l (hq.head x r)) e.symm
    have e1 : t.1 = u.1 := by
      rcases lt2_tri t.1 u.1 with l | l | l
      · exact absurd l (key hp hq h)
      · exact l
      · exact absurd l (key hq hp fun f => (h f).symm)
    have e2 : t.2 = u.2 := by
      have := h (ind t.1)
      rw [hp.ev_head, e1, hq.ev_head] at this
      exact this
    have et : t = u := Prod.ext e1 e2
    subst et
    rw [canon_uniq hp.tail hq.tail fun f => by have := h f; simp only [ev_cons] at this; omega]
/-- the canonical list -/
def ins (e : Ex) (c : Int) : Poly → Poly
  | [] => if c = 0 then [] else [(e, c)]
  | t :: r => if lt2 e t.1 then (if c = 0 then t :: r else (e, c) :: t :: r) else if e = t.1 then (if c + t.2 = 0 then r else (e, c + t.2) :: r) else t :: ins e c r
theorem ins_ev (e : Ex) (c : Int) (f : Ex → Int) : ∀ p, ev (ins e c p) f = c * f e + ev p f
  | [] => by
    unfold ins; split
    · rename_i h; subst h; simp
    · simp
  | t :: r => by
    unfold ins; split
    · split
      · rename_i h; subst h; simp
      · simp
    · split
      · rename_i h; subst h
        split
        · rename_i h
          simp only [ev_cons]
          have : c * f t.1 + t.2 * f t.1 = (c + t.2) * f t.1 := by grind
          rw [h] at this
          omega
        · simp only [ev_cons]; grind
      · simp only [ev_cons, ins_ev e c f r]; omega
theorem ins_keys {e : Ex} {c : Int} : ∀ {p : Poly} {x : Ex × Int}, x ∈ ins e c p → x.1 = e ∨ ∃ y ∈ p, y.1 = x.1
  | [], x, h => by
    unfold ins at h; split at h
    · cases h
    · rcases List.mem_cons.mp h with r | r
      · subst r; exact .inl rfl
      · cases r
  | t :: r, x, h => by
    unfold ins at h; split at h
    · split at h
      · exact .inr ⟨x, h, rfl⟩
      · rcases List.mem_cons.mp h with q | q
        · subst q; exact .inl rfl
        · exact .inr ⟨x, q, rfl⟩
    · split at h
      · split at h
        · exact .inr ⟨x, List.mem_cons_of_mem _ h, rfl⟩
        · rcases List.mem_cons.mp h with q | q
          · subst q; exact .inl rfl
          · exact .inr ⟨x, List.mem_cons_of_mem _ q, rfl⟩
      · rcases List.mem_cons.mp h with q | q
        · subst q; exact .inr ⟨_, List.mem_cons_self, rfl⟩
        · rcases ins_keys q with z | ⟨y, hy, z⟩
          · exact .inl z
          · exact .inr ⟨y, List.mem_cons_of_mem _ hy, z⟩
theorem ins_canon (e : Ex) (c : Int) : ∀ {p : Poly}, Canon p → Canon (ins e c p)
  | [], _ => by
    unfold ins; split
    · exact ⟨List.Pairwise.nil, fun _ h => by cases h⟩
    · rename_i h
      refine ⟨List.pairwise_singleton _ _, fun x hx => ?_⟩
      rcases List.mem_cons.mp hx with r | r
      · subst r; exact h
      · cases r
  | t :: r, hp => by
    unfold ins; split
    · rename_i l
      split
      · exact hp
      · rename_i h
        refine ⟨List.pairwise_cons.mpr ⟨fun x hx => ?_, hp.asc⟩, fun x hx => ?_⟩
        · rcases List.mem_cons.mp hx with q | q
          · subst q; exact l
          · exact lt2_trans l (hp.head x q)
        · rcases List.mem_cons.mp hx with q | q
          · subst q; exact h
          · exact hp.nz x q
    · rename_i l
      split
      · rename_i q
        subst q
        split
        · exact hp.tail
        · rename_i h
          refine ⟨List.pairwise_cons.mpr ⟨fun x hx => hp.head x hx, hp.tail.asc⟩, fun x hx => ?_⟩
          rcases List.mem_cons.mp hx with q | q
          · subst q; exact h
          · exact hp.nz x (List.mem_cons_of_mem _ q)
      · rename_i q
        have ih := ins_canon e c hp.tail
        have l2 : lt2 t.1 e := by
          rcases lt2_tri e t.1 with z | z | z
          · exact absurd z l
          · exact absurd z q
          · exact z
        refine ⟨List.pairwise_cons.mpr ⟨fun x hx => ?_, ih.asc⟩, fun x hx => ?_⟩
        · rcases ins_keys hx with z | ⟨y, hy, z⟩
          · rw [z]; exact l2
          · rw [← z]; exact hp.head y hy
        · rcases List.mem_cons.mp hx with z | z
          · subst z; exact hp.nz _ List.mem_cons_self
          · exact ih.nz x z
def cf : Poly → Poly
  | [] => []
  | t :: r => ins t.1 t.2 (cf r)
theorem cf_canon : ∀ p, Canon (cf p)
  | [] => ⟨List.Pairwise.nil, fun _ h => by cases h⟩
  | t :: r => ins_canon _ _ (cf_canon r)
theorem cf_ev (f : Ex → Int) : ∀ p, ev (cf p) f = ev p f
  | [] => rfl
  | t :: r => by
    show ev (ins t.1 t.2 (cf r)) f = _
    rw [ins_ev, cf_ev f r, ev_cons]
theorem cf_of {p q : Poly} (hp : Canon p) (h : ∀ f, ev p f = ev q f) : p = cf q := canon_uniq hp (cf_canon q) fun f => by rw [cf_ev, h]
theorem cf_eq {p q : Poly} (h : ∀ f, ev p f = ev q f) : cf p = cf q := canon_uniq (cf_canon p) (cf_canon q) fun f => by rw [cf_ev, cf_ev, h]
theorem cf_self {p : Poly} (h : Canon p) : cf p = p := (cf_of h fun _ => rfl).symm
/-! ### the size: the sum of the coefficients without their signs -/
def nrm (p : Poly) : Nat := match p with
  | [] => 0
  | t :: r => t.2.natAbs + nrm r
@[simp] theorem nrm_nil : nrm [] = 0 := rfl
@[simp] theorem nrm_cons (t : Ex × Int) (p : Poly) : nrm (t :: p) = t.2.natAbs + nrm p := rfl
theorem nrm_append (p q : Poly) : nrm (p ++ q) = nrm p + nrm q := by
  induction p with
  | nil => simp
  | cons t r ih => simp only [List.cons_append, nrm_cons, ih]; omega
theorem nrm_ins (e : Ex) (c : Int) : ∀ p, nrm (ins e c p) ≤ c.natAbs + nrm p
  | [] => by
    unfold ins; split <;> simp
  | t :: r => by
    unfold ins; split
    · split <;> simp
    · split
      · split
        · simp; omega
        · simp; omega
      · have := nrm_ins e c r
        simp only [nrm_cons]; omega
theorem nrm_cf : ∀ p, nrm (cf p) ≤ nrm p
  | [] => Nat.le_refl _
  | t :: r => by
    show nrm (ins t.1 t.2 (cf r)) ≤ _
    have := nrm_ins t.1 t.2 (cf r)
    have := nrm_cf r
    simp only [nrm_cons]; omega
theorem len_nrm : ∀ {p : Poly}, (∀ x ∈ p, x.2 ≠ 0) → p.length ≤ nrm p
  | [], _ => Nat.le_refl _
  | t :: r, h => by
    have := len_nrm (p := r) fun x hx => h x (List.mem_cons_of_mem _ hx)
    have := h t List.mem_cons_self
    simp only [List.length_cons, nrm_cons]; omega
theorem Canon.len {p : Poly} (h : Canon p) : p.length ≤ nrm p := len_nrm h.nz
theorem nrm_mem : ∀ {p : Poly} {t : Ex × Int}, t ∈ p → t.2.natAbs ≤ nrm p
  | [], _, h => by cases h
  | x :: r, t, h => by
    rcases List.mem_cons.mp h with q | q
    · subst q; simp
    · have := nrm_mem q
      simp only [nrm_cons]; omega
/-! ### products -/
def addE (a b : Ex) : Ex := (a.1 + b.1, a.2 + b.2)
theorem addE_assoc (a b c : Ex) : addE (addE a b) c = addE a (addE b c) := by simp only [addE, Prod.mk.injEq]; omega
theorem addE_comm (a b : Ex) : addE a b = addE b a := by simp only [addE, Prod.mk.injEq]; omega
theorem addE_zero (a : Ex) : addE a (0, 0) = a := by obtain ⟨x, y⟩ := a; simp [addE]
def scl (s : Ex × Int) (q : Poly) : Poly := q.map fun t => (addE s.1 t.1, s.2 * t.2)
theorem scl_ev (s : Ex × Int) (f : Ex → Int) : ∀ q, ev (scl s q) f = s.2 * ev q fun b => f (addE s.1 b)
  | [] => by simp [scl]
  | t :: r => by
    show ev ((addE s.1 t.1, s.2 * t.2) :: scl s r) f = _
    simp only [ev_cons, scl_ev s f r]; grind
theorem scl_nrm (s : Ex × Int) : ∀ q, nrm (scl s q) = s.2.natAbs * nrm q
  | [] => by simp [scl]
  | t :: r => by
    show nrm ((addE s.1 t.1, s.2 * t.2) :: scl s r) = _
    simp only [nrm_cons, scl_nrm s r, Int.natAbs_mul]; grind
def mul (p q : Poly) : Poly := match p with
  | [] => []
  | s :: r => scl s q ++ mul r q
theorem mul_ev (q : Poly) (f : Ex → Int) : ∀ p, ev (mul p q) f = ev p fun a => ev q fun b => f (addE a b)
  | [] => rfl
  | s :: r => by
    show ev (scl s q ++ mul r q) f = _
    rw [ev_append, scl_ev, mul_ev q f r, ev_cons]
theorem mul_nrm (q : Poly) : ∀ p, nrm (mul p q) = nrm p * nrm q
  | [] => by simp [mul]
  | s :: r => by
    show nrm (scl s q ++ mul r q) = _
    rw [nrm_append, scl_nrm, mul_nrm q r, nrm_cons, Nat.add_mul]
theorem mul_len (q : Poly) : ∀ p, (mul p q).length = p.length * q.length
  | [] => by simp [mul]
  | s :: r => by
    show (scl s q ++ mul r q).length = _
    rw [List.length_append, mul_len q r, List.length_cons, Nat.add_mul]
    simp [scl]; omega
def plus (p q : Poly) : Poly := cf (p ++ q)
def times (p q : Poly) : Poly := cf (mul p q)
theorem plus_ev (p q : Poly) (f : Ex → Int) : ev (plus p q) f = ev p f + ev q f := by unfold plus; rw [cf_ev, ev_append]
theorem times_ev (p q : Poly) (f : Ex → Int) : ev (times p q) f = ev p fun a => ev q fun b => f (addE a b) := by unfold times; rw [cf_ev, mul_ev]
theorem plus_nrm (p q : Poly) : nrm (plus p q) ≤ nrm p + nrm q := by have := nrm_cf (p ++ q); rw [nrm_append] at this; exact this
theorem times_nrm (p q : Poly) : nrm (times p q) ≤ nrm p * nrm q := by have := nrm_cf (mul p q); rw [mul_nrm] at this; exact this
theorem plus_canon (p q : Poly) : Canon (plus p q) := cf_canon _
theorem times_canon (p q : Poly) : Canon (times p q) := cf_canon _
/-- times one term, times two -/
theorem times_mono (p : Poly) (a b c : Int) (f : Ex → Int) : ev (times p [((a, b), c)]) f = c * ev p fun e => f (addE e (a, b)) := by
  rw [times_ev, ← ev_smul]
  exact ev_congr p fun e => by simp
theorem bi_ev (a b : Ex) (c d : Int) (f : Ex → Int) : ev (cf [(a, c), (b, d)]) f = c * f a + d * f b := by rw [cf_ev]; simp
theorem times_bi (p : Poly) (a b : Ex) (c d : Int) (f : Ex → Int) : ev (times p (cf [(a, c), (b, d)])) f = c * (ev p fun e => f (addE e a)) + d * ev p fun e => f (addE e b) := by
  rw [times_ev, ← ev_smul, ← ev_smul, ← ev_add]
  exact ev_congr p fun e => by rw [bi_ev]
theorem bi_nrm (a b : Ex) (c d : Int) : nrm (cf [(a, c), (b, d)]) ≤ c.natAbs + d.natAbs := by
  have := nrm_cf [(a, c), (b, d)]
  simpa using this
/-! ### tables of polynomials -/
section
variable {κ : Type} [DecidableEq κ]
def tget (t : List (κ × Poly)) (k : κ) : Poly := match t with
  | [] => []
  | x :: r => if x.1 = k then x.2 else tget r k
def tput (t : List (κ × Poly)) (k : κ) (p : Poly) : List (κ × Poly) := match t with
  | [] => [(k, p)]
  | x :: r => if x.1 = k then (k, p) :: r else x :: tput r k p
def tadd (t : List (κ × Poly)) (k : κ) (p : Poly) : List (κ × Poly) := tput t k (plus (tget t k) p)
/-- the reading of a table by a weight of keys and exponents -/
def tev (t : List (κ × Poly)) (W : κ → Ex → Int) : Int := match t with
  | [] => 0
  | x :: r => ev x.2 (W x.1) + tev r W
theorem tev_put (W : κ → Ex → Int) (k : κ) (p : Poly) : ∀ t : List (κ × Poly), tev (tput t k p) W + ev (tget t k) (W k) = tev t W + ev p (W k)
  | [] => by simp [tput, tget, tev]
  | x :: r => by
    unfold tput tget
    by_cases h : x.1 = k
    · rw [if_pos h, if_pos h]; subst h; simp only [tev]; omega
    · rw [if_neg h, if_neg h]
      have := tev_put W k p r
      simp only [tev]; omega
theorem tev_add (W : κ → Ex → Int) (k : κ) (p : Poly) (t : List (κ × Poly)) : tev (tadd t k p) W = tev t W + ev p (W k) := by
  have := tev_put W k (plus (tget t k) p) t
  rw [plus_ev] at this
  unfold tadd; omega
/-- the weighted size -/
def tsz (t : List (κ × Poly)) (w : κ → Nat) : Nat := match t with
  | [] => 0
  | x :: r => w x.1 * nrm x.2 + tsz r w
theorem tsz_put (w : κ → Nat) (k : κ) (p : Poly) : ∀ t : List (κ × Poly), tsz (tput t k p) w + w k * nrm (tget t k) = tsz t w + w k * nrm p
  | [] => by simp [tput, tget, tsz]
  | x :: r => by
    unfold tput tget
    by_cases h : x.1 = k
    · rw [if_pos h, if_pos h]; subst h; simp only [tsz]; omega
    · rw [if_neg h, if_neg h]
      have := tsz_put w k p r
      simp only [tsz]; omega
theorem tsz_add (w : κ → Nat) (k : κ) (p : Poly) (t : List (κ × Poly)) : tsz (tadd t k p) w ≤ tsz t w + w k * nrm p := by
  have h := tsz_put w k (plus (tget t k) p) t
  have h2 := Nat.mul_le_mul_left (w k) (plus_nrm (tget t k) p)
  rw [Nat.mul_add] at h2
  unfold tadd; omega
theorem tget_sz (w : κ → Nat) (k : κ) (hw : 1 ≤ w k) : ∀ t : List (κ × Poly), nrm (tget t k) ≤ tsz t w
  | [] => by simp [tget]
  | x :: r => by
    unfold tget
    by_cases h : x.1 = k
    · rw [if_pos h]; subst h
      simp only [tsz]
      have := Nat.mul_le_mul_right (nrm x.2) hw
      omega
    · rw [if_neg h]
      have := tget_sz w k hw r
      simp only [tsz]; omega
theorem tput_keys {k : κ} {p : Poly} : ∀ {t : List (κ × Poly)} {x : κ × Poly}, x ∈ tput t k p → x = (k, p) ∨ x ∈ t
  | [], x, h => by
    rcases List.mem_cons.mp h with q | q
    · exact .inl q
    · cases q
  | y :: r, x, h => by
    unfold tput at h
    split at h
    · rcases List.mem_cons.mp h with q | q
      · exact .inl q
      · exact .inr (List.mem_cons_of_mem _ q)
    · rcases List.mem_cons.mp h with q | q
      · exact .inr (q ▸ List.mem_cons_self)
      · rcases tput_keys q with z | z
        · exact .inl z
        · exact .inr (List.mem_cons_of_mem _ z)
theorem tput_nd {k : κ} {p : Poly} : ∀ {t : List (κ × Poly)}, (t.map (·.1)).Nodup → ((tput t k p).map (·.1)).Nodup
  | [], _ => by simp [tput]
  | y :: r, h => by
    unfold tput
    split
    · rename_i e; subst e; exact h
    · rename_i e
      rw [List.map_cons, List.nodup_cons] at h ⊢
      refine ⟨fun hm => ?_, tput_nd h.2⟩
      obtain ⟨x, hx, ex⟩ := List.mem_map.mp hm
      rcases tput_keys hx with z | z
      · subst z; exact e ex.symm
      · exact h.1 (ex ▸ List.mem_map_of_mem z)
theorem tget_mem {k : κ} : ∀ {t : List (κ × Poly)}, (∃ x ∈ t, x.1 = k ∧ tget t k = x.2) ∨ tget t k = []
  | [] => .inr rfl
  | y :: r => by
    unfold tget
    split
    · rename_i e; exact .inl ⟨y, List.mem_cons_self, e, rfl⟩
    · rcases tget_mem (k := k) (t := r) with ⟨x, hx, h⟩ | h
      · exact .inl ⟨x, List.mem_cons_of_mem _ hx, h⟩
      · exact .inr h
theorem tev_congr {W W' : κ → Ex → Int} : ∀ (t : List (κ × Poly)), (∀ x ∈ t, ∀ e, W x.1 e = W' x.1 e) → tev t W = tev t W'
  | [], _ => rfl
  | x :: r, h => by
    simp only [tev]
    rw [tev_congr r fun y hy => h y (List.mem_cons_of_mem _ hy), ev_congr x.2 (h x List.mem_cons_self)]
/-- all keys but one have no weight -/
theorem tev_one {W : κ → Ex → Int} {k : κ} : ∀ {t : List (κ × Poly)}, (t.map (·.1)).Nodup → (∀ x ∈ t, x.1 ≠ k → ∀ e, W x.1 e = 0) → tev t W = ev (tget t k) (W k)
  | [], _, _ => rfl
  | x :: r, nd, h => by
    rw [List.map_cons, List.nodup_cons] at nd
    have ih := tev_one nd.2 fun y hy => h y (List.mem_cons_of_mem _ hy)
    simp only [tev]
    unfold tget
    split
    · rename_i e
      subst e
      have : tev r W = 0 := by
        rw [ih]
        rcases tget_mem (k := x.1) (t := r) with ⟨y, hy, e, _⟩ | z
        · exact absurd (e ▸ List.mem_map_of_mem hy) nd.1
        · rw [z]; rfl
      omega
    · rename_i e
      rw [ih, ev_congr x.2 (h x List.mem_cons_self e), ev_zero]; omega
end
end SF

set_option maxRecDepth 100000
/-! # States of spins, their costs, the flip of some places -/
namespace SF
def states : Nat → List (List Int)
  | 0 => [[]]
  | n + 1 => (states n).flatMap fun s => [s ++ [0], s ++ [1]]
/-- the spin at a vertex -/
def at0 (s : List Int) (v : Nat) : Int := s.getD v 0
structure IsSt (n : Nat) (s : List Int) : Prop where
  len : s.length = n
  bit : ∀ x ∈ s, x = 0 ∨ x = 1
theorem IsSt.at {n : Nat} {s : List Int} (h : IsSt n s) (v : Nat) : at0 s v = 0 ∨ at0 s v = 1 := by
  unfold at0
  by_cases e : v < s.length
  · rw [List.getD_eq_getElem?_getD, List.getElem?_eq_getElem e]
    exact h.bit _ (List.getElem_mem e)
  · rw [List.getD_eq_getElem?_getD, List.getElem?_eq_none (by omega)]
    exact .inl rfl
theorem states_is : ∀ {n : Nat} {s : List Int}, s ∈ states n → IsSt n s
  | 0, s, h => by
    have e : s = [] := by simpa [states] using h
    subst e
    exact ⟨rfl, fun _ h => by cases h⟩
  | n + 1, s, h => by
    obtain ⟨r, hr, hs⟩ := List.mem_flatMap.mp h
    have ih := states_is hr
    have q : s = r ++ [0] ∨ s = r ++ [1] := by simpa using hs
    rcases q with q | q <;> subst q
    · exact ⟨by simp [ih.len], fun x hx => by rcases List.mem_append.mp hx with z | z; exact ih.bit x z; simp at z; exact .inl z⟩
    · exact ⟨by simp [ih.len], fun x hx => by rcases List.mem_append.mp hx with z | z; exact ih.bit x z; simp at z; exact .inr z⟩
theorem states_len : ∀ n, (states n).length = 2 ^ n
  | 0 => rfl
  | n + 1 => by
    show ((states n).flatMap fun s => [s ++ [0], s ++ [1]]).length = _
    rw [List.length_flatMap]
    have : ∀ l : List (List Int), (l.map fun s => [s ++ [0], s ++ [1]].length).sum = 2 * l.length := fun l => by
      induction l with
      | nil => rfl
      | cons a r ih => rw [List.map_cons, List.sum_cons, ih, List.length_cons]; show 2 + 2 * r.length = 2 * (r.length + 1); omega
    rw [this, states_len n, Nat.pow_succ]; omega
theorem sm_flat (F : List Int → Int) : ∀ l : List (List Int), sm (l.flatMap fun s => [s ++ [0], s ++ [1]]) F = sm l fun s => F (s ++ [0]) + F (s ++ [1])
  | [] => rfl
  | s :: r => by
    rw [List.flatMap_cons, sm_append, sm_flat F r]
    simp only [sm_cons, sm_nil]; omega
theorem sm_states_succ (n : Nat) (F : List Int → Int) : sm (states (n + 1)) F = sm (states n) fun s => F (s ++ [0]) + F (s ++ [1]) := sm_flat F _
theorem sm_one (n : Nat) : sm (states n) (fun _ => 1) = 2 ^ n := by
  induction n with
  | zero => rfl
  | succ n ih =>
    rw [sm_states_succ, sm_add, ih, Int.pow_succ]; omega
theorem at0_left {s : List Int} {b : Int} {v : Nat} (h : v < s.length) : at0 (s ++ [b]) v = at0 s v := by
  unfold at0
  rw [List.getD_eq_getElem?_getD, List.getD_eq_getElem?_getD, List.getElem?_append_left h]
theorem at0_last {s : List Int} {b : Int} : at0 (s ++ [b]) s.length = b := by
  unfold at0
  rw [List.getD_eq_getElem?_getD, List.getElem?_append_right (Nat.le_refl _)]
  simp
theorem at0_ge {s : List Int} {v : Nat} (h : s.length ≤ v) : at0 s v = 0 := by
  unfold at0
  rw [List.getD_eq_getElem?_getD, List.getElem?_eq_none h]; rfl
/-- the spins at the places of D turned round -/
def flip (D : Nat → Bool) (s : List Int) : List Int := s.mapIdx fun i x => if D i = true then 1 - x else x
theorem flip_len (D : Nat → Bool) (s : List Int) : (flip D s).length = s.length := by unfold flip; simp
theorem flip_at {D : Nat → Bool} {s : List Int} {v : Nat} (h : v < s.length) : at0 (flip D s) v = if D v = true then 1 - at0 s v else at0 s v := by
  unfold at0 flip
  rw [List.getD_eq_getElem?_getD, List.getD_eq_getElem?_getD, List.getElem?_mapIdx, List.getElem?_eq_getElem h]
  rfl
theorem flip_snoc (D : Nat → Bool) (s : List Int) (b : Int) : flip D (s ++ [b]) = flip D s ++ [if D s.length = true then 1 - b else b] := by
  unfold flip; rw [List.mapIdx_append]; simp
theorem sm_flip (D : Nat → Bool) : ∀ (n : Nat) (F : List Int → Int), sm (states n) (fun s => F (flip D s)) = sm (states n) F
  | 0, F => rfl
  | n + 1, F => by
    rw [sm_states_succ, sm_states_succ, ← sm_flip D n fun s => F (s ++ [0]) + F (s ++ [1])]
    refine sm_congr _ fun s hs => ?_
    rw [flip_snoc, flip_snoc]
    by_cases h : D s.length = true
    · rw [if_pos h, if_pos h]
      show F (flip D s ++ [1]) + F (flip D s ++ [0]) = _
      omega
    · rw [if_neg h, if_neg h]
theorem flip_is {n : Nat} {D : Nat → Bool} {s : List Int} (h : IsSt n s) : IsSt n (flip D s) := by
  refine ⟨by rw [flip_len]; exact h.len, fun x hx => ?_⟩
  unfold flip at hx
  obtain ⟨i, hi, e⟩ := List.mem_mapIdx.mp hx
  have hb := h.bit _ (List.getElem_mem hi)
  subst e
  split <;> omega
/-- states are told by their spins -/
theorem st_ext {n : Nat} {s t : List Int} (hs : IsSt n s) (ht : IsSt n t) (h : ∀ v, v < n → at0 s v = at0 t v) : s = t := by
  refine List.ext_getElem (by rw [hs.len, ht.len]) fun i h1 h2 => ?_
  have := h i (by have := hs.len; omega)
  unfold at0 at this
  rw [List.getD_eq_getElem?_getD, List.getD_eq_getElem?_getD, List.getElem?_eq_getElem h1, List.getElem?_eq_getElem h2] at this
  exact this
/-- FREE PLACES: a weight that does not look at the places where a and b part has one sum over the states that are a on I, and over those that are b on I -/
theorem sm_free (n : Nat) (I : Nat → Prop) [DecidablePred I] (a b : Nat → Int) (ha : ∀ v, a v = 0 ∨ a v = 1) (hb : ∀ v, b v = 0 ∨ b v = 1) (g : List Int → Int)
    (hg : ∀ s t, IsSt n s → IsSt n t → (∀ v, v < n → (I v → a v = b v) → at0 s v = at0 t v) → g s = g t)
    (Pa Pb : List Int → Bool) (hPa : ∀ s, IsSt n s → (Pa s = true ↔ ∀ v, v < n → I v → at0 s v = a v)) (hPb : ∀ s, IsSt n s → (Pb s = true ↔ ∀ v, v < n → I v → at0 s v = b v)) :
    sm (states n) (fun s => if Pa s = true then g s else 0) = sm (states n) fun s => if Pb s = true then g s else 0 := by
  have key := sm_flip (fun v => decide (I v ∧ a v ≠ b v)) n fun s => if Pb s = true then g s else 0
  rw [← key]
  refine sm_congr _ fun s hs => ?_
  have h := states_is hs
  have hf := flip_is (D := fun v => decide (I v ∧ a v ≠ b v)) h
  have e : Pa s = true ↔ Pb (flip (fun v => decide (I v ∧ a v ≠ b v)) s) = true := by
    rw [hPa s h, hPb _ hf]
    have fl : ∀ v, v < n → at0 (flip (fun v => decide (I v ∧ a v ≠ b v)) s) v = if I v ∧ a v ≠ b v then 1 - at0 s v else at0 s v := fun v hv => by
      rw [flip_at (by rw [h.len]; exact hv)]
      by_cases c : I v ∧ a v ≠ b v
      · simp [c]
      · simp [c]
    constructor
    · intro q v hv hI
      rw [fl v hv]
      have := q v hv hI
      split
      · rename_i z; have := ha v; have := hb v; omega
      · rename_i z
        have : a v = b v := Classical.byContradiction fun y => z ⟨hI, y⟩
        omega
    · intro q v hv hI
      have := q v hv hI
      rw [fl v hv] at this
      split at this
      · rename_i z; have := ha v; have := hb v; have := h.at v; omega
      · rename_i z
        have : a v = b v := Classical.byContradiction fun y => z ⟨hI, y⟩
        omega
  by_cases c : Pa s = true
  · rw [if_pos c, if_pos (e.mp c)]
    refine hg _ _ h hf fun v hv z => ?_
    rw [flip_at (by rw [h.len]; exact hv)]
    have : ¬ (I v ∧ a v ≠ b v) := fun y => y.2 (z y.1)
    simp [this]
  · rw [if_neg c, if_neg fun y => c (e.mpr y)]
/-! ### spins: fields, edges -/
abbrev Edge := Nat × Nat × Int
/-- what an edge costs in a state -/
def ecost (s : List Int) (e : Edge) : Int := if at0 s e.1 = at0 s e.2.1 then 0 else e.2.2
/-- the sum over the vertices below n -/
def vs (n : Nat) (F : Nat → Int) : Int := match n with
  | 0 => 0
  | k + 1 => vs k F + F k
theorem vs_congr {F G : Nat → Int} : ∀ {n : Nat}, (∀ v, v < n → F v = G v) → vs n F = vs n G
  | 0, _ => rfl
  | n + 1, h => by
    show vs n F + F n = vs n G + G n
    rw [vs_congr fun v hv => h v (by omega), h n (by omega)]
theorem vs_add (F G : Nat → Int) : ∀ n, vs n (fun v => F v + G v) = vs n F + vs n G
  | 0 => rfl
  | n + 1 => by
    show vs n (fun v => F v + G v) + (F n + G n) = (vs n F + F n) + (vs n G + G n)
    rw [vs_add F G n]; omega
theorem vs_zero : ∀ n, vs n (fun _ => 0) = 0
  | 0 => rfl
  | n + 1 => by
    show vs n (fun _ => 0) + 0 = 0
    rw [vs_zero n]; rfl
theorem vs_single {n v : Nat} (hv : v < n) (c : Int) : vs n (fun u => if u = v then c else 0) = c := by
  induction n with
  | zero => omega
  | succ n ih =>
    show vs n (fun u => if u = v then c else 0) + (if n = v then c else 0) = c
    by_cases e : n = v
    · subst e
      have : vs n (fun u => if u = n then c else 0) = 0 := by
        rw [vs_congr (G := fun _ => 0) fun u hu => if_neg (by omega), vs_zero]
      rw [this, if_pos rfl]; omega
    · rw [ih (by omega), if_neg e]; omega
def fld (h : List Int) (v : Nat) : Int := h.getD v 0
/-- cost and ups of a state -/
def cst (h : List Int) (es : List Edge) (s : List Int) : Int := vs h.length (fun v => fld h v * at0 s v) + sm es (ecost s)
def ups (s : List Int) : Int := vs s.length (at0 s)
/-- the partition polynomial -/
def Z (h : List Int) (es : List Edge) : Poly := cf ((states h.length).map fun s => ((cst h es s, ups s), 1))
theorem ev_map_one {α : Type} (g : α → Ex) (f : Ex → Int) : ∀ l : List α, ev (l.map fun s => (g s, 1)) f = sm l fun s => f (g s)
  | [] => rfl
  | a :: r => by simp only [List.map_cons, ev_cons, sm_cons, ev_map_one g f r]; omega
theorem Z_ev (h : List Int) (es : List Edge) (f : Ex → Int) : ev (Z h es) f = sm (states h.length) fun s => f (cst h es s, ups s) := by
  unfold Z; rw [cf_ev]; exact ev_map_one _ f _
theorem Z_canon (h : List Int) (es : List Edge) : Canon (Z h es) := cf_canon _
/-- what is well made: n vertices, edges u < v < n, ascending -/
structure Wf (h : List Int) (es : List Edge) : Prop where
  lo : 1 ≤ h.length
  hi : h.length ≤ 6
  few : es.length ≤ 10
  lt : ∀ e ∈ es, e.1 < e.2.1 ∧ e.2.1 < h.length
  asc : es.Pairwise fun e f => e.1 < f.1 ∨ (e.1 = f.1 ∧ e.2.1 < f.2.1)
  cj : ∀ e ∈ es, e.2.2 ≠ 0 ∧ -3 ≤ e.2.2 ∧ e.2.2 ≤ 3
  fj : ∀ f ∈ h, -2 ≤ f ∧ f ≤ 2
/-! ### what the law asks of the polynomial itself -/
theorem Z_mem_pos {h : List Int} {es : List Edge} {t : Ex × Int} (ht : t ∈ Z h es) : 1 ≤ t.2 := by
  have hc := Z_canon h es
  have e : ∀ {p : Poly}, Canon p → t ∈ p → ev p (ind t.1) = t.2 := by
    intro p
    induction p with
    | nil => intro _ h; cases h
    | cons x r ih =>
      intro hp hm
      rcases List.mem_cons.mp hm with q | q
      · subst q; exact hp.ev_head
      · rw [ev_cons, ih hp.tail q]
        have : x.1 ≠ t.1 := lt2_ne (hp.head t q)
        simp [ind, this]
  have e1 := e hc ht
  rw [Z_ev] at e1
  have nn : 0 ≤ sm (states h.length) fun s => ind t.1 (cst h es s, ups s) := by
    have := sm_le (F := fun _ => 0) (G := fun s => ind t.1 (cst h es s, ups s)) (states h.length) fun s _ => by unfold ind; split <;> omega
    rw [sm_zero] at this
    exact this
  have := hc.nz t ht
  omega
theorem Z_sum (h : List Int) (es : List Edge) : ev (Z h es) (fun _ => 1) = 2 ^ h.length := by
  rw [Z_ev, sm_one]
theorem ev_one_sum : ∀ p : Poly, ev p (fun _ => 1) = (p.map (·.2)).sum
  | [] => rfl
  | t :: r => by simp only [ev_cons, List.map_cons, List.sum_cons, ev_one_sum r]; omega
theorem Z_ne (h : List Int) (es : List Edge) : Z h es ≠ [] := fun e => by
  have := Z_sum h es
  rw [e] at this
  have p : (0 : Int) < 2 ^ h.length := Int.pow_pos (by decide)
  simp at this; omega
theorem Z_nrm (h : List Int) (es : List Edge) : nrm (Z h es) ≤ 2 ^ h.length := by
  have h1 := nrm_cf ((states h.length).map fun s => ((cst h es s, ups s), 1))
  have h2 : ∀ l : List (List Int), nrm (l.map fun s => ((cst h es s, ups s), 1)) = l.length := fun l => by
    induction l with
    | nil => rfl
    | cons a r ih => simp only [List.map_cons, nrm_cons, ih, List.length_cons]; omega
  rw [h2, states_len] at h1
  exact h1
/-- a state whose ups are 0, n -/
theorem ups_zero {n : Nat} {s : List Int} (hs : IsSt n s) : ups s = 0 ↔ ∀ v, v < n → at0 s v = 0 := by
  unfold ups; rw [hs.len]
  have : ∀ k, 0 ≤ vs k (at0 s) ∧ (vs k (at0 s) = 0 ↔ ∀ v, v < k → at0 s v = 0) := fun k => by
    induction k with
    | zero => exact ⟨Int.le_refl _, ⟨fun _ v hv => by omega, fun _ => rfl⟩⟩
    | succ k ih =>
      have hb := hs.at k
      refine ⟨by show 0 ≤ vs k (at0 s) + at0 s k; omega, ?_⟩
      show vs k (at0 s) + at0 s k = 0 ↔ _
      constructor
      · intro e v hv
        by_cases z : v = k
        · subst z; omega
        · exact ih.2.mp (by omega) v (by omega)
      · intro q
        have := ih.2.mpr fun v hv => q v (by omega)
        have := q k (by omega)
        omega
  exact (this n).2
theorem ups_full {n : Nat} {s : List Int} (hs : IsSt n s) : ups s = n ↔ ∀ v, v < n → at0 s v = 1 := by
  unfold ups; rw [hs.len]
  have : ∀ k : Nat, vs k (at0 s) ≤ k ∧ (vs k (at0 s) = k ↔ ∀ v, v < k → at0 s v = 1) := fun k => by
    induction k with
    | zero => exact ⟨Int.le_refl _, ⟨fun _ v hv => by omega, fun _ => rfl⟩⟩
    | succ k ih =>
      have hb := hs.at k
      refine ⟨by show vs k (at0 s) + at0 s k ≤ _; omega, ?_⟩
      show vs k (at0 s) + at0 s k = _ ↔ _
      constructor
      · intro e v hv
        by_cases z : v = k
        · subst z; omega
        · exact ih.2.mp (by omega) v (by omega)
      · intro q
        have := ih.2.mpr fun v hv => q v (by omega)
        have := q k (by omega)
        omega
  exact (this n).2
theorem rep_mem (n : Nat) (b : Int) (hb : b = 0 ∨ b = 1) : List.replicate n b ∈ states n := by
  induction n with
  | zero => simp [states]
  | succ n ih =>
    refine List.mem_flatMap.mpr ⟨_, ih, ?_⟩
    rw [List.replicate_succ']
    rcases hb with q | q <;> subst q <;> simp
theorem states_nd : ∀ n, (states n).Nodup
  | 0 => by simp [states]
  | n + 1 => by
    show ((states n).flatMap fun s => [s ++ [0], s ++ [1]]).Nodup
    have : ∀ l : List (List Int), l.Nodup → (l.flatMap fun s => [s ++ [0], s ++ [1]]).Nodup := fun l => by
      induction l with
      | nil => intro _; simp
      | cons a r ih =>
        intro h
        rw [List.nodup_cons] at h
        rw [List.flatMap_cons]
        refine List.nodup_append.mpr ⟨by simp, ih h.2, fun x hx y hy e => ?_⟩
        subst e
        obtain ⟨b, hb, hm⟩ := List.mem_flatMap.mp hy
        have e1 : x = a ++ [0] ∨ x = a ++ [1] := by simpa using hx
        have e2 : x = b ++ [0] ∨ x = b ++ [1] := by simpa using hm
        have : a = b := by
          rcases e1 with e1 | e1 <;> rcases e2 with e2 | e2 <;> rw [e1] at e2 <;> simpa using e2
        subst this
        exact h.1 hb
    exact this _ (states_nd n)
theorem at0_rep {n v : Nat} {b : Int} (h : v < n) : at0 (List.replicate n b) v = b := by
  unfold at0
  rw [List.getD_eq_getElem?_getD, List.getElem?_replicate, if_pos h]; rfl
/-- a weight that one state alone has -/
theorem sm_single {α : Type} {l : List α} {a : α} {F : α → Int} (nd : l.Nodup) (ha : a ∈ l) (h : ∀ b ∈ l, b ≠ a → F b = 0) : sm l F = F a := by
  induction l with
  | nil => cases ha
  | cons x r ih =>
    rw [List.nodup_cons] at nd
    rw [sm_cons]
    rcases List.mem_cons.mp ha with e | e
    · subst e
      have : sm r F = 0 := by
        rw [sm_congr (G := fun _ => 0) r fun b hb => h b (List.mem_cons_of_mem _ hb) fun z => nd.1 (z ▸ hb), sm_zero]
      omega
    · have e2 : x ≠ a := fun z => nd.1 (z ▸ e)
      rw [h x List.mem_cons_self e2, ih nd.2 e fun b hb => h b (List.mem_cons_of_mem _ hb)]; omega
/-- the terms at one exponent of y come from one state alone -/
theorem only_one {p : Poly} (hp : Canon p) (b a : Int) (h : ∀ x : Int, ev p (ind (x, b)) = if x = a then 1 else 0) :
    (p.filter fun t => decide (t.1.2 = b)).map (fun t => (t.1.1, t.2)) = [(a, 1)] := by
  have evm : ∀ {q : Poly}, Canon q → ∀ t ∈ q, ev q (ind t.1) = t.2 := by
    intro q
    induction q with
    | nil => intro _ t h; cases h
    | cons x r ih =>
      intro hq t hm
      rcases List.mem_cons.mp hm with z | z
      · subst z; exact hq.ev_head
      · rw [ev_cons, ih hq.tail t z]
        have : x.1 ≠ t.1 := lt2_ne (hq.head t z)
        simp [ind, this]
  have all : ∀ t ∈ p.filter fun t => decide (t.1.2 = b), t = ((a, b), 1) := fun t ht => by
    obtain ⟨hm, hb⟩ := List.mem_filter.mp ht
    have hb' : t.1.2 = b := of_decide_eq_true hb
    have e := evm hp t hm
    have e2 := h t.1.1
    have : t.1 = (t.1.1, b) := by rw [← hb']
    rw [← this, e] at e2
    by_cases c : t.1.1 = a
    · rw [if_pos c] at e2
      obtain ⟨⟨x, y⟩, z⟩ := t
      simp_all
    · rw [if_neg c] at e2
      exact absurd e2 (hp.nz t hm)
  have there : ((a, b), (1 : Int)) ∈ p.filter fun t => decide (t.1.2 = b) := by
    have e := h a
    rw [if_pos rfl] at e
    by_cases c : ∀ x ∈ p, x.1 ≠ (a, b)
    · rw [ev_ind_zero c] at e; omega
    · have ⟨x, c⟩ := Classical.not_forall.mp c
      have ⟨hx, c⟩ := Classical.not_imp.mp c
      have c := Classical.not_not.mp c
      have hm : x ∈ p.filter fun t => decide (t.1.2 = b) := List.mem_filter.mpr ⟨hx, by rw [c]; simp⟩
      rw [all x hm] at hm; exact hm
  have nd : (p.filter fun t => decide (t.1.2 = b)).Pairwise fun x y => lt2 x.1 y.1 := hp.asc.sublist List.filter_sublist
  generalize (p.filter fun t => decide (t.1.2 = b)) = l at all there nd
  match l, all, there, nd with
  | [x], all, _, _ => rw [all x List.mem_cons_self]; rfl
  | x :: y :: r, all, _, nd =>
    have h1 := all x List.mem_cons_self
    have h2 := all y (List.mem_cons_of_mem _ List.mem_cons_self)
    have := (List.pairwise_cons.mp nd).1 y List.mem_cons_self
    rw [h1, h2] at this
    exact absurd this (lt2_irr _)
theorem cst_zero {h : List Int} {es : List Edge} (w : ∀ e ∈ es, e.1 < e.2.1 ∧ e.2.1 < h.length) : cst h es (List.replicate h.length 0) = 0 := by
  unfold cst
  rw [vs_congr (G := fun _ => 0) fun v hv => by rw [at0_rep hv]; omega, vs_zero, sm_congr (G := fun _ => 0) es fun e he => ?_, sm_zero]
  · rfl
  · unfold ecost
    have := w e he
    rw [at0_rep (by omega), at0_rep (by omega), if_pos rfl]
theorem cst_full {h : List Int} {es : List Edge} (w : ∀ e ∈ es, e.1 < e.2.1 ∧ e.2.1 < h.length) : cst h es (List.replicate h.length 1) = h.sum := by
  unfold cst
  rw [vs_congr (G := fun v => fld h v) fun v hv => by rw [at0_rep hv]; omega, sm_congr (G := fun _ => 0) es fun e he => ?_, sm_zero]
  · have : ∀ l : List Int, vs l.length (fld l) = l.sum := fun l => by
      induction l with
      | nil => rfl
      | cons x r ih =>
        have sh : ∀ k, vs (k + 1) (fld (x :: r)) = x + vs k (fld r) := fun k => by
          induction k with
          | zero => simp [vs, fld]
          | succ k ih =>
            show vs (k + 1) (fld (x :: r)) + fld (x :: r) (k + 1) = x + (vs k (fld r) + fld r k)
            rw [ih]; unfold fld; simp; omega
        rw [List.length_cons, sh, ih, List.sum_cons]
    rw [show vs h.length (fun v => fld h v) = vs h.length (fld h) from rfl, this]; omega
  · unfold ecost
    have := w e he
    rw [at0_rep (by omega), at0_rep (by omega), if_pos rfl]
theorem Z_low {h : List Int} {es : List Edge} (w : ∀ e ∈ es, e.1 < e.2.1 ∧ e.2.1 < h.length) : ((Z h es).filter fun t => decide (t.1.2 = 0)).map (fun t => (t.1.1, t.2)) = [(0, 1)] := by
  refine only_one (Z_canon h es) 0 0 fun x => ?_
  rw [Z_ev, sm_single (states_nd _) (rep_mem h.length 0 (.inl rfl)) fun s hs ne => ?_]
  · have e := (ups_zero (states_is (rep_mem h.length 0 (.inl rfl)))).mpr fun v hv => at0_rep hv
    rw [e, cst_zero w]
    unfold ind
    by_cases c : x = 0
    · subst c; simp
    · rw [if_neg (fun z => c (by simpa using (congrArg Prod.fst z).symm)), if_neg c]
  · unfold ind
    refine if_neg fun z => ne ?_
    have z2 : ups s = 0 := congrArg Prod.snd z
    have hI := states_is hs
    exact st_ext hI (states_is (rep_mem h.length 0 (.inl rfl))) fun v hv => by rw [(ups_zero hI).mp z2 v hv, at0_rep hv]
theorem Z_high {h : List Int} {es : List Edge} (w : ∀ e ∈ es, e.1 < e.2.1 ∧ e.2.1 < h.length) : ((Z h es).filter fun t => decide (t.1.2 = (h.length : Int))).map (fun t => (t.1.1, t.2)) = [(h.sum, 1)] := by
  refine only_one (Z_canon h es) _ _ fun x => ?_
  rw [Z_ev, sm_single (states_nd _) (rep_mem h.length 1 (.inr rfl)) fun s hs ne => ?_]
  · have e := (ups_full (states_is (rep_mem h.length 1 (.inr rfl)))).mpr fun v hv => at0_rep hv
    rw [e, cst_full w]
    unfold ind
    by_cases c : x = h.sum
    · subst c; simp
    · rw [if_neg (fun z => c (by simpa using (congrArg Prod.fst z).symm)), if_neg c]
  · unfold ind
    refine if_neg fun z => ne ?_
    have z2 : ups s = h.length := congrArg Prod.snd z
    have hI := states_is hs
    exact st_ext hI (states_is (rep_mem h.length 1 (.inr rfl))) fun v hv => by rw [(ups_full hI).mp z2 v hv, at0_rep hv]
end SF

set_option maxRecDepth 100000
/-! # Transfer along an order: the tables over frontiers -/
namespace SF
/-- the edges at a vertex: the other end and the coupling, in the order of the edges -/
def nearL (es : List Edge) (v : Nat) : List (Nat × Int) := match es with
  | [] => []
  | e :: r => if e.1 = v then (e.2.1, e.2.2) :: nearL r v else if e.2.1 = v then (e.1, e.2.2) :: nearL r v else nearL r v
def lookN (l : List (Nat × Int)) (u : Nat) : Int := match l with
  | [] => 0
  | x :: r => if x.1 = u then x.2 else lookN r u
/-- the spin that a key gives a vertex of the frontier, 0 elsewhere -/
def look : List Nat → List Int → Nat → Int
  | f :: fr, k :: key, u => if f = u then k else look fr key u
  | _, _, _ => 0
theorem look_bit {fr : List Nat} {key : List Int} (h : ∀ x ∈ key, x = 0 ∨ x = 1) (u : Nat) : look fr key u = 0 ∨ look fr key u = 1 := by
  induction fr generalizing key with
  | nil => exact .inl (by unfold look; rfl)
  | cons f fr ih =>
    cases key with
    | nil => exact .inl rfl
    | cons k key =>
      show (if f = u then k else look fr key u) = 0 ∨ (if f = u then k else look fr key u) = 1
      split
      · exact h k List.mem_cons_self
      · exact ih fun x hx => h x (List.mem_cons_of_mem _ hx)
theorem look_out {fr : List Nat} {u : Nat} (h : u ∉ fr) (key : List Int) : look fr key u = 0 := by
  induction fr generalizing key with
  | nil => unfold look; rfl
  | cons f fr ih =>
    cases key with
    | nil => rfl
    | cons k key =>
      show (if f = u then k else look fr key u) = 0
      rw [if_neg fun (e : f = u) => h (e ▸ List.mem_cons_self)]
      exact ih (fun hm => h (List.mem_cons_of_mem _ hm)) key
theorem look_map {fr : List Nat} {u : Nat} (h : u ∈ fr) (F : Nat → Int) : look fr (fr.map F) u = F u := by
  induction fr with
  | nil => cases h
  | cons f fr ih =>
    show (if f = u then F f else look fr (fr.map F) u) = F u
    by_cases e : f = u
    · rw [if_pos e, e]
    · rw [if_neg e]
      rcases List.mem_cons.mp h with q | q
      · exact absurd q.symm e
      · exact ih q
/-- what a further vertex pays beside the kept spins -/
def paid (h : List Int) (es : List Edge) (fr : List Nat) (key : List Int) (v : Nat) (spin : Int) : Int :=
  (if spin = 1 then fld h v else 0) + sm ((fr.zip key).filter fun x => decide (x.1 ∈ (nearL es v).map (·.1)) && decide (x.2 ≠ spin)) (fun x => lookN (nearL es v) x.1)
def place (fr : List Nat) (key : List Int) (v : Nat) (spin : Int) (fr' : List Nat) : List Int := fr'.map fun u => if u = v then spin else look fr key u
def trow (h : List Int) (es : List Edge) (fr : List Nat) (v : Nat) (fr' : List Nat) (later : List (List Int × Poly)) (x : List Int × Poly) : List (List Int × Poly) :=
  tadd (tadd later (place fr x.1 v 0 fr') (times x.2 [((paid h es fr x.1 v 0, 0), 1)])) (place fr x.1 v 1 fr') (times x.2 [((paid h es fr x.1 v 1, 1), 1)])
/-- the frontier of the vertices inside -/
structure Front (es : List Edge) (ins fr : List Nat) : Prop where
  nd : fr.Nodup
  mem : ∀ v, v ∈ fr ↔ v ∈ ins ∧ ∃ x ∈ nearL es v, x.1 ∉ ins
def rest (h : List Int) (es : List Edge) (ins : List Nat) (s : List Int) : Ex :=
  (vs h.length (fun v => if v ∈ ins then 0 else fld h v * at0 s v) + sm es (fun e => if e.1 ∈ ins ∧ e.2.1 ∈ ins then 0 else ecost s e), vs h.length (fun v => if v ∈ ins then 0 else at0 s v))
def agree (ins fr : List Nat) (key : List Int) (s : List Int) : Bool := ins.all fun u => at0 s u == look fr key u
def GT (h : List Int) (es : List Edge) (ins fr : List Nat) (f : Ex → Int) (key : List Int) (e : Ex) : Int :=
  sm (states h.length) fun s => if agree ins fr key s = true then f (addE e (rest h es ins s)) else 0
theorem agree_iff {ins fr : List Nat} {key s : List Int} : agree ins fr key s = true ↔ ∀ u ∈ ins, at0 s u = look fr key u := by
  unfold agree; simp [List.all_eq_true]
theorem near_mem {es : List Edge} {v : Nat} {x : Nat × Int} : x ∈ nearL es v ↔ ∃ e ∈ es, (e.1 = v ∧ x = (e.2.1, e.2.2)) ∨ (e.1 ≠ v ∧ e.2.1 = v ∧ x = (e.1, e.2.2)) := by
  induction es with
  | nil => simp [nearL]
  | cons e r ih =>
    unfold nearL
    split
    · rename_i h
      rw [List.mem_cons, ih]
      constructor
      · rintro (q | ⟨e', he, q⟩)
        · exact ⟨e, List.mem_cons_self, .inl ⟨h, q⟩⟩
        · exact ⟨e', List.mem_cons_of_mem _ he, q⟩
      · rintro ⟨e', he, q⟩
        rcases List.mem_cons.mp he with z | z
        · subst z
          rcases q with q | q
          · exact .inl q.2
          · exact absurd h q.1
        · exact .inr ⟨e', z, q⟩
    · rename_i h
      split
      · rename_i h2
        rw [List.mem_cons, ih]
        constructor
        · rintro (q | ⟨e', he, q⟩)
          · exact ⟨e, List.mem_cons_self, .inr ⟨h, h2, q⟩⟩
          · exact ⟨e', List.mem_cons_of_mem _ he, q⟩
        · rintro ⟨e', he, q⟩
          rcases List.mem_cons.mp he with z | z
          · subst z
            rcases q with q | q
            · exact absurd q.1 h
            · exact .inl q.2.2
          · exact .inr ⟨e', z, q⟩
      · rename_i h2
        rw [ih]
        constructor
        · rintro ⟨e', he, q⟩
          exact ⟨e', List.mem_cons_of_mem _ he, q⟩
        · rintro ⟨e', he, q⟩
          rcases List.mem_cons.mp he with z | z
          · subst z
            rcases q with q | q
            · exact absurd q.1 h
            · exact absurd q.2.1 h2
          · exact ⟨e', z, q⟩
/-- the other ends differ -/
theorem near_nd {es : List Edge} (lt : ∀ e ∈ es, e.1 < e.2.1) (asc : es.Pairwise fun e f => e.1 < f.1 ∨ (e.1 = f.1 ∧ e.2.1 < f.2.1)) (v : Nat) : ((nearL es v).map (·.1)).Nodup := by
  induction es with
  | nil => simp [nearL]
  | cons e r ih =>
    have ih := ih (fun x hx => lt x (List.mem_cons_of_mem _ hx)) (List.pairwise_cons.mp asc).2
    have hd := (List.pairwise_cons.mp asc).1
    have le := lt e List.mem_cons_self
    unfold nearL
    split
    · rename_i h
      rw [List.map_cons, List.nodup_cons]
      refine ⟨fun hm => ?_, ih⟩
      obtain ⟨x, hx, ex⟩ := List.mem_map.mp hm
      obtain ⟨f, hf, q⟩ := near_mem.mp hx
      have := hd f hf
      have := lt f (List.mem_cons_of_mem _ hf)
      rcases q with ⟨q1, q2⟩ | ⟨q1, q2, q3⟩
      · subst q2; simp only at ex; omega
      · subst q3; simp only at ex; omega
    · split
      · rename_i h h2
        rw [List.map_cons, List.nodup_cons]
        refine ⟨fun hm => ?_, ih⟩
        obtain ⟨x, hx, ex⟩ := List.mem_map.mp hm
        obtain ⟨f, hf, q⟩ := near_mem.mp hx
        have := hd f hf
        have := lt f (List.mem_cons_of_mem _ hf)
        rcases q with ⟨q1, q2⟩ | ⟨q1, q2, q3⟩
        · subst q2; simp only at ex; omega
        · subst q3; simp only at ex; omega
      · exact ih
theorem lookN_mem {l : List (Nat × Int)} {x : Nat × Int} (nd : (l.map (·.1)).Nodup) (hx : x ∈ l) : lookN l x.1 = x.2 := by
  induction l with
  | nil => cases hx
  | cons y r ih =>
    rw [List.map_cons, List.nodup_cons] at nd
    unfold lookN
    rcases List.mem_cons.mp hx with q | q
    · subst q; rw [if_pos rfl]
    · rw [if_neg fun (e : y.1 = x.1) => nd.1 (e ▸ List.mem_map_of_mem q)]
      exact ih nd.2 q
theorem near_one {f : Nat} {k spin : Int} {L : List (Nat × Int)} (ndL : (L.map (·.1)).Nodup) : sm L (fun x => if x.1 = f ∧ k ≠ spin then x.2 else 0) = if f ∈ L.map (·.1) ∧ k ≠ spin then lookN L f else 0 := by
  induction L with
  | nil => simp
  | cons y r ihL =>
    rw [List.map_cons, List.nodup_cons] at ndL
    have ihL := ihL ndL.2
    rw [sm_cons, ihL]
    by_cases c : y.1 = f
    · have nm : f ∉ r.map (·.1) := c ▸ ndL.1
      by_cases d : k ≠ spin
      · rw [if_pos ⟨c, d⟩, if_neg fun z => nm z.1, if_pos ⟨by rw [List.map_cons, c]; exact List.mem_cons_self, d⟩]
        unfold lookN; rw [if_pos c]; omega
      · rw [if_neg fun z => d z.2, if_neg fun z => d z.2, if_neg fun z => d z.2]; rfl
    · rw [if_neg fun z => c z.1]
      have e : lookN (y :: r) f = lookN r f := by show (if y.1 = f then y.2 else lookN r f) = _; rw [if_neg c]
      rw [e]
      by_cases d : f ∈ r.map (·.1) ∧ k ≠ spin
      · rw [if_pos d, if_pos ⟨List.mem_cons_of_mem _ d.1, d.2⟩]; omega
      · rw [if_neg d, if_neg fun z => ?_]
        · rfl
        · rcases List.mem_cons.mp (by rw [← List.map_cons]; exact z.1) with q | q
          · exact c q.symm
          · exact d ⟨q, z.2⟩
/-- the sum over the kept spins is the sum over the edges to the vertices inside -/
theorem paid_near {fr : List Nat} {key : List Int} (hl : key.length = fr.length) (nd : fr.Nodup) {L : List (Nat × Int)} (ndL : (L.map (·.1)).Nodup) (spin : Int) (a : Nat → Int)
    (ha : ∀ u ∈ fr, a u = look fr key u) :
    sm ((fr.zip key).filter fun x => decide (x.1 ∈ L.map (·.1)) && decide (x.2 ≠ spin)) (fun x => lookN L x.1) = sm L fun x => if x.1 ∈ fr ∧ a x.1 ≠ spin then x.2 else 0 := by
  induction fr generalizing key with
  | nil => simp only [List.zip_nil_left, List.filter_nil, sm_nil]; rw [sm_congr (G := fun _ => 0) L fun x _ => if_neg fun h => absurd h.1 (by simp), sm_zero]
  | cons f fr ih =>
    cases key with
    | nil => cases hl
    | cons k key =>
      rw [List.nodup_cons] at nd
      have ih := ih (key := key) (by simpa using hl) nd.2 fun u hu => by
        rw [ha u (List.mem_cons_of_mem _ hu)]
        show (if f = u then k else look fr key u) = _
        rw [if_neg fun (e : f = u) => nd.1 (e ▸ hu)]
      have hf : a f = k := by
        rw [ha f List.mem_cons_self]
        show (if f = f then k else look fr key f) = k
        rw [if_pos rfl]
      rw [List.zip_cons_cons]
      have split : sm L (fun x => if x.1 ∈ f :: fr ∧ a x.1 ≠ spin then x.2 else 0) = sm L (fun x => if x.1 = f ∧ k ≠ spin then x.2 else 0) + sm L fun x => if x.1 ∈ fr ∧ a x.1 ≠ spin then x.2 else 0 := by
        rw [← sm_add]
        refine sm_congr L fun x _ => ?_
        by_cases c : x.1 = f
        · have : x.1 ∉ fr := fun z => nd.1 (c ▸ z)
          have e : a x.1 = k := by rw [c]; exact hf
          by_cases d : k ≠ spin
          · rw [if_pos ⟨by rw [c]; exact List.mem_cons_self, by rw [e]; exact d⟩, if_pos ⟨c, d⟩, if_neg fun z => this z.1]; omega
          · rw [if_neg fun z => d (e ▸ z.2), if_neg fun z => d z.2, if_neg fun z => this z.1]; rfl
        · by_cases d : x.1 ∈ fr ∧ a x.1 ≠ spin
          · rw [if_pos ⟨List.mem_cons_of_mem _ d.1, d.2⟩, if_neg fun z => c z.1, if_pos d]; omega
          · rw [if_neg fun z => ?_, if_neg fun z => c z.1, if_neg d]
            · rfl
            · rcases List.mem_cons.mp z.1 with y | y
              · exact c y
              · exact d ⟨y, z.2⟩
      have one := near_one (f := f) (k := k) (spin := spin) ndL
      rw [split, one, ← ih]
      by_cases c : f ∈ L.map (·.1) ∧ k ≠ spin
      · rw [List.filter_cons_of_pos (by simp only [decide_eq_true c.1, decide_eq_true c.2, Bool.and_self]), if_pos c, sm_cons]
      · rw [List.filter_cons_of_neg (fun z => c ?_), if_neg c]
        · omega
        · simp only [Bool.and_eq_true, decide_eq_true_eq] at z
          exact z
/-- the edges at v to the vertices inside, read off the edges -/
theorem near_sum (es : List Edge) (v : Nat) (lt : ∀ e ∈ es, e.1 < e.2.1) (c : Nat → Prop) [DecidablePred c] :
    sm (nearL es v) (fun x => if c x.1 then x.2 else 0) = sm es fun e => if (e.1 = v ∧ c e.2.1) ∨ (e.2.1 = v ∧ c e.1) then e.2.2 else 0 := by
  induction es with
  | nil => rfl
  | cons e r ih =>
    have ih := ih fun x hx => lt x (List.mem_cons_of_mem _ hx)
    have le := lt e List.mem_cons_self
    unfold nearL
    rw [sm_cons, ← ih]
    by_cases h1 : e.1 = v
    · rw [if_pos h1, sm_cons]
      have : ¬ e.2.1 = v := by omega
      by_cases h2 : c e.2.1
      · rw [if_pos h2, if_pos (.inl ⟨h1, h2⟩)]
      · rw [if_neg h2, if_neg fun z => z.elim (fun z => h2 z.2) fun z => this z.1]
    · rw [if_neg h1]
      by_cases h3 : e.2.1 = v
      · rw [if_pos h3, sm_cons]
        by_cases h2 : c e.1
        · rw [if_pos h2, if_pos (.inr ⟨h3, h2⟩)]
        · rw [if_neg h2, if_neg fun z => z.elim (fun z => h1 z.1) fun z => h2 z.2]
      · rw [if_neg h3, if_neg fun z => z.elim (fun z => h1 z.1) fun z => h3 z.1]; omega
section
variable {h : List Int} {es : List Edge} {ins fr fr' : List Nat} {key : List Int} {v : Nat}
theorem rest_step (w : Wf h es) (F : Front es ins fr) (hv : v < h.length) (hn : v ∉ ins) (hl : key.length = fr.length) {s : List Int} (ha : ∀ u ∈ ins, at0 s u = look fr key u) {spin : Int} (hb : spin = 0 ∨ spin = 1) (hs : at0 s v = spin) :
    rest h es ins s = addE (paid h es fr key v spin, spin) (rest h es (ins ++ [v]) s) := by
  have lt : ∀ e ∈ es, e.1 < e.2.1 := fun e he => (w.lt e he).1
  have frin : ∀ u ∈ fr, u ∈ ins := fun u hu => ((F.mem u).mp hu).1
  have p1 := paid_near hl F.nd (near_nd lt w.asc v) spin (at0 s) fun u hu => ha u (frin u hu)
  have p2 : sm (nearL es v) (fun x => if x.1 ∈ fr ∧ at0 s x.1 ≠ spin then x.2 else 0) = sm (nearL es v) fun x => if x.1 ∈ ins ∧ at0 s x.1 ≠ spin then x.2 else 0 := by
    refine sm_congr _ fun x hx => ?_
    have : x.1 ∈ fr ↔ x.1 ∈ ins := by
      refine ⟨frin _, fun z => (F.mem _).mpr ⟨z, ?_⟩⟩
      obtain ⟨e, he, q⟩ := near_mem.mp hx
      have := lt e he
      rcases q with ⟨q1, q2⟩ | ⟨q1, q2, q3⟩
      · refine ⟨(v, x.2), near_mem.mpr ⟨e, he, .inr ?_⟩, hn⟩
        subst q2
        exact ⟨by simp only; omega, rfl, by rw [q1]⟩
      · refine ⟨(v, x.2), near_mem.mpr ⟨e, he, .inl ?_⟩, hn⟩
        subst q3
        exact ⟨rfl, by rw [q2]⟩
    by_cases c : x.1 ∈ ins ∧ at0 s x.1 ≠ spin
    · rw [if_pos c, if_pos ⟨this.mpr c.1, c.2⟩]
    · rw [if_neg c, if_neg fun z => c ⟨this.mp z.1, z.2⟩]
  have p3 := near_sum es v lt fun u => u ∈ ins ∧ at0 s u ≠ spin
  have pp : paid h es fr key v spin = fld h v * at0 s v + sm es fun e => if (e.1 = v ∧ e.2.1 ∈ ins ∧ at0 s e.2.1 ≠ spin) ∨ (e.2.1 = v ∧ e.1 ∈ ins ∧ at0 s e.1 ≠ spin) then e.2.2 else 0 := by
    unfold paid
    rw [p1, p2, p3, hs]
    rcases hb with q | q <;> subst q <;> simp
  have v1 : vs h.length (fun u => if u ∈ ins then 0 else fld h u * at0 s u) = fld h v * at0 s v + vs h.length fun u => if u ∈ ins ++ [v] then 0 else fld h u * at0 s u := by
    rw [← vs_single hv (fld h v * at0 s v), ← vs_add]
    refine vs_congr fun u _ => ?_
    by_cases c : u = v
    · subst c; rw [if_neg hn, if_pos rfl, if_pos (by simp)]; omega
    · rw [if_neg c]
      by_cases d : u ∈ ins
      · rw [if_pos d, if_pos (by simp [d])]; rfl
      · rw [if_neg d, if_neg (by simp [d, c])]; omega
  have v2 : vs h.length (fun u => if u ∈ ins then 0 else at0 s u) = at0 s v + vs h.length fun u => if u ∈ ins ++ [v] then 0 else at0 s u := by
    rw [← vs_single hv (at0 s v), ← vs_add]
    refine vs_congr fun u _ => ?_
    by_cases c : u = v
    · subst c; rw [if_neg hn, if_pos rfl, if_pos (by simp)]; omega
    · rw [if_neg c]
      by_cases d : u ∈ ins
      · rw [if_pos d, if_pos (by simp [d])]; rfl
      · rw [if_neg d, if_neg (by simp [d, c])]; omega
  have v3 : sm es (fun e => if e.1 ∈ ins ∧ e.2.1 ∈ ins then 0 else ecost s e) = (sm es fun e => if (e.1 = v ∧ e.2.1 ∈ ins ∧ at0 s e.2.1 ≠ spin) ∨ (e.2.1 = v ∧ e.1 ∈ ins ∧ at0 s e.1 ≠ spin) then e.2.2 else 0)
      + sm es fun e => if e.1 ∈ ins ++ [v] ∧ e.2.1 ∈ ins ++ [v] then 0 else ecost s e := by
    rw [← sm_add]
    refine sm_congr es fun e he => ?_
    have := lt e he
    have m : ∀ u, u ∈ ins ++ [v] ↔ u ∈ ins ∨ u = v := fun u => by simp
    simp only [m]
    unfold ecost
    grind
  unfold rest addE
  simp only [Prod.mk.injEq]
  refine ⟨?_, ?_⟩
  · rw [v1, v3, pp]; omega
  · rw [v2, hs]
/-- the rest does not look at the vertices inside that are off the frontier -/
theorem rest_free (w : Wf h es) (F : Front es ins fr) {s t : List Int} (e : ∀ u, u < h.length → (u ∈ ins → u ∈ fr) → at0 s u = at0 t u) : rest h es ins s = rest h es ins t := by
  unfold rest
  have ed : ∀ x ∈ es, ¬ (x.1 ∈ ins ∧ x.2.1 ∈ ins) → at0 s x.1 = at0 t x.1 ∧ at0 s x.2.1 = at0 t x.2.1 := fun x hx nb => by
    have := w.lt x hx
    refine ⟨e _ (by omega) fun hi => (F.mem _).mpr ⟨hi, (x.2.1, x.2.2), near_mem.mpr ⟨x, hx, .inl ⟨rfl, rfl⟩⟩, fun z => nb ⟨hi, z⟩⟩, e _ this.2 fun hi => (F.mem _).mpr ⟨hi, (x.1, x.2.2), near_mem.mpr ⟨x, hx, .inr ⟨by omega, rfl, rfl⟩⟩, fun z => nb ⟨z, hi⟩⟩⟩
  have e1 : vs h.length (fun v => if v ∈ ins then 0 else fld h v * at0 s v) = vs h.length fun v => if v ∈ ins then 0 else fld h v * at0 t v := vs_congr fun u hu => by
    by_cases c : u ∈ ins
    · rw [if_pos c, if_pos c]
    · rw [if_neg c, if_neg c, e u hu fun z => absurd z c]
  have e2 : vs h.length (fun v => if v ∈ ins then 0 else at0 s v) = vs h.length fun v => if v ∈ ins then 0 else at0 t v := vs_congr fun u hu => by
    by_cases c : u ∈ ins
    · rw [if_pos c, if_pos c]
    · rw [if_neg c, if_neg c, e u hu fun z => absurd z c]
  have e3 : sm es (fun x => if x.1 ∈ ins ∧ x.2.1 ∈ ins then 0 else ecost s x) = sm es fun x => if x.1 ∈ ins ∧ x.2.1 ∈ ins then 0 else ecost t x := sm_congr es fun x hx => by
    by_cases c : x.1 ∈ ins ∧ x.2.1 ∈ ins
    · rw [if_pos c, if_pos c]
    · rw [if_neg c, if_neg c]
      have := ed x hx c
      unfold ecost
      rw [this.1, this.2]
  rw [e1, e2, e3]
/-- one more vertex: its two spins -/
theorem GT_step (w : Wf h es) (F : Front es ins fr) (F' : Front es (ins ++ [v]) fr') (hv : v < h.length) (hn : v ∉ ins) (hl : key.length = fr.length) (hk : ∀ x ∈ key, x = 0 ∨ x = 1) (f : Ex → Int) (e : Ex) :
    GT h es ins fr f key e = GT h es (ins ++ [v]) fr' f (place fr key v 0 fr') (addE e (paid h es fr key v 0, 0)) + GT h es (ins ++ [v]) fr' f (place fr key v 1 fr') (addE e (paid h es fr key v 1, 1)) := by
  have one : ∀ spin : Int, spin = 0 ∨ spin = 1 → sm (states h.length) (fun s => if (agree ins fr key s && (at0 s v == spin)) = true then f (addE e (rest h es ins s)) else 0) =
      GT h es (ins ++ [v]) fr' f (place fr key v spin fr') (addE e (paid h es fr key v spin, spin)) := fun spin hb => by
    have step1 : sm (states h.length) (fun s => if (agree ins fr key s && (at0 s v == spin)) = true then f (addE e (rest h es ins s)) else 0) =
        sm (states h.length) fun s => if (agree ins fr key s && (at0 s v == spin)) = true then f (addE (addE e (paid h es fr key v spin, spin)) (rest h es (ins ++ [v]) s)) else 0 := by
      refine sm_congr _ fun s hs => ?_
      by_cases c : (agree ins fr key s && (at0 s v == spin)) = true
      · rw [if_pos c, if_pos c]
        simp only [Bool.and_eq_true, beq_iff_eq] at c
        rw [rest_step w F hv hn hl (agree_iff.mp c.1) hb c.2, addE_assoc]
      · rw [if_neg c, if_neg c]
    rw [step1]
    unfold GT
    refine sm_free h.length (fun u => u ∈ ins ++ [v]) (fun u => if u = v then spin else look fr key u) (fun u => look fr' (place fr key v spin fr') u) (fun u => ?_) (fun u => ?_) _ (fun s t hs ht q => ?_) _ _ (fun s hs => ?_) fun s hs => ?_
    · split
      · exact hb
      · exact look_bit hk u
    · refine look_bit (fun x hx => ?_) u
      obtain ⟨y, _, rfl⟩ := List.mem_map.mp hx
      split
      · exact hb
      · exact look_bit hk y
    · rw [rest_free w F' (s := s) (t := t) fun u hu hf => q u hu fun hi => ?_]
      have hm := hf hi
      unfold place
      exact (look_map hm fun u => if u = v then spin else look fr key u).symm
    · simp only [Bool.and_eq_true, beq_iff_eq, agree_iff]
      constructor
      · intro z u hu hi
        by_cases c : u = v
        · rw [if_pos c, c]; exact z.2
        · rw [if_neg c]
          exact z.1 u (by simpa [c] using hi)
      · intro z
        refine ⟨fun u hu => ?_, ?_⟩
        · have c : ¬ u = v := fun y => hn (y ▸ hu)
          by_cases b : u < h.length
          · have := z u b (by simp [hu])
            rw [if_neg c] at this; exact this
          · rw [at0_ge (by rw [hs.len]; omega), look_out (fun y => ?_)]
            obtain ⟨_, x, hx, _⟩ := (F.mem u).mp y
            obtain ⟨ed, hed, q⟩ := near_mem.mp hx
            have := w.lt ed hed
            rcases q with q | q
            · omega
            · omega
        · have := z v hv (by simp)
          rw [if_pos rfl] at this; exact this
    · rw [agree_iff]
      constructor
      · exact fun z u _ hi => z u hi
      · intro z u hi
        by_cases b : u < h.length
        · exact z u b hi
        · rw [at0_ge (by rw [hs.len]; omega), look_out (fun y => ?_)]
          obtain ⟨_, x, hx, _⟩ := (F'.mem u).mp y
          obtain ⟨ed, hed, q⟩ := near_mem.mp hx
          have := w.lt ed hed
          rcases q with q | q
          · omega
          · omega
  rw [← one 0 (.inl rfl), ← one 1 (.inr rfl), ← sm_add]
  unfold GT
  refine sm_congr _ fun s hs => ?_
  have hb := (states_is hs).at v
  by_cases c : agree ins fr key s = true
  · rw [if_pos c]
    rcases hb with q | q <;> rw [c, q] <;> simp
  · rw [if_neg c]
    have c : agree ins fr key s = false := by simpa using c
    rw [c]; simp
end
/-- what holds of the table between two vertices -/
structure TInv (h : List Int) (es : List Edge) (ins fr : List Nat) (t : List (List Int × Poly)) : Prop where
  front : Front es ins fr
  key : ∀ x ∈ t, x.1.length = fr.length ∧ ∀ b ∈ x.1, b = 0 ∨ b = 1
  nd : (t.map (·.1)).Nodup
  can : ∀ x ∈ t, Canon x.2
  val : ∀ f, tev t (GT h es ins fr f) = ev (Z h es) f
  sz : tsz t (fun _ => 1) ≤ 2 ^ ins.length
theorem tadd_mem {κ : Type} [DecidableEq κ] {t : List (κ × Poly)} {k : κ} {p : Poly} {x : κ × Poly} (h : x ∈ tadd t k p) : (x.1 = k ∧ Canon x.2) ∨ x ∈ t := by
  rcases tput_keys h with q | q
  · subst q; exact .inl ⟨rfl, plus_canon _ _⟩
  · exact .inr q
/-- a table that is being filled -/
structure TPart (h : List Int) (es : List Edge) (ins fr fr' : List Nat) (v : Nat) (t later : List (List Int × Poly)) : Prop where
  key : ∀ x ∈ later, x.1.length = fr'.length ∧ ∀ b ∈ x.1, b = 0 ∨ b = 1
  nd : (later.map (·.1)).Nodup
  can : ∀ x ∈ later, Canon x.2
  val : ∀ f, tev later (GT h es (ins ++ [v]) fr' f) = tev t (GT h es ins fr f)
  sz : tsz later (fun _ => 1) ≤ 2 * tsz t fun _ => 1
theorem place_key {fr : List Nat} {key : List Int} (hk : ∀ x ∈ key, x = 0 ∨ x = 1) (v : Nat) {spin : Int} (hb : spin = 0 ∨ spin = 1) (fr' : List Nat) :
    (place fr key v spin fr').length = fr'.length ∧ ∀ b ∈ place fr key v spin fr', b = 0 ∨ b = 1 := by
  refine ⟨by unfold place; simp, fun b hx => ?_⟩
  obtain ⟨y, _, rfl⟩ := List.mem_map.mp hx
  split
  · exact hb
  · exact look_bit hk y
theorem tev_snoc {κ : Type} (W : κ → Ex → Int) (x : κ × Poly) : ∀ t : List (κ × Poly), tev (t ++ [x]) W = tev t W + ev x.2 (W x.1)
  | [] => by simp [tev]
  | y :: r => by simp only [List.cons_append, tev, tev_snoc W x r]; omega
theorem tsz_snoc {κ : Type} (w : κ → Nat) (x : κ × Poly) : ∀ t : List (κ × Poly), tsz (t ++ [x]) w = tsz t w + w x.1 * nrm x.2
  | [] => by simp [tsz]
  | y :: r => by simp only [List.cons_append, tsz, tsz_snoc w x r]; omega
theorem tsz_take {κ : Type} (w : κ → Nat) : ∀ (t : List (κ × Poly)) (i : Nat), tsz (t.take i) w ≤ tsz t w
  | [], _ => by simp [tsz]
  | _ :: _, 0 => by simp [tsz]
  | y :: r, i + 1 => by
    have := tsz_take w r i
    simp only [List.take_succ_cons, tsz]; omega
theorem mono_nrm (p : Poly) (a b : Int) : nrm (times p [((a, b), 1)]) ≤ nrm p := by
  have := times_nrm p [((a, b), 1)]
  simpa using this
theorem TPart.start (h : List Int) (es : List Edge) (ins fr fr' : List Nat) (v : Nat) : TPart h es ins fr fr' v [] [] :=
  ⟨fun _ h => absurd h (by simp), by simp, fun _ h => absurd h (by simp), fun _ => rfl, by simp [tsz]⟩
theorem TPart.step {h : List Int} {es : List Edge} {ins fr fr' : List Nat} {v : Nat} {t later : List (List Int × Poly)} {x : List Int × Poly} (w : Wf h es) (F : Front es ins fr) (F' : Front es (ins ++ [v]) fr') (hv : v < h.length) (hn : v ∉ ins)
    (hl : x.1.length = fr.length) (hk : ∀ b ∈ x.1, b = 0 ∨ b = 1) (P : TPart h es ins fr fr' v t later) : TPart h es ins fr fr' v (t ++ [x]) (trow h es fr v fr' later x) where
  key := fun y hy => by
    rcases tadd_mem hy with q | q
    · rw [q.1]; exact place_key hk v (.inr rfl) fr'
    · rcases tadd_mem q with q | q
      · rw [q.1]; exact place_key hk v (.inl rfl) fr'
      · exact P.key y q
  nd := tput_nd (tput_nd P.nd)
  can := fun y hy => by
    rcases tadd_mem hy with q | q
    · exact q.2
    · rcases tadd_mem q with q | q
      · exact q.2
      · exact P.can y q
  val := fun f => by
    unfold trow
    rw [tev_add, tev_add, P.val f, tev_snoc, times_mono, times_mono]
    rw [ev_congr (f := GT h es ins fr f x.1) x.2 fun e => GT_step w F F' hv hn hl hk f e, ev_add]; omega
  sz := by
    unfold trow
    have h1 := tsz_add (fun _ => 1) (place fr x.1 v 1 fr') (times x.2 [((paid h es fr x.1 v 1, 1), 1)]) (tadd later (place fr x.1 v 0 fr') (times x.2 [((paid h es fr x.1 v 0, 0), 1)]))
    have h2 := tsz_add (fun _ => 1) (place fr x.1 v 0 fr') (times x.2 [((paid h es fr x.1 v 0, 0), 1)]) later
    have h3 := mono_nrm x.2 (paid h es fr x.1 v 0) 0
    have h4 := mono_nrm x.2 (paid h es fr x.1 v 1) 1
    have h5 := P.sz
    rw [tsz_snoc]; omega
theorem TInv.next {h : List Int} {es : List Edge} {ins fr fr' : List Nat} {v : Nat} {t later : List (List Int × Poly)} (T : TInv h es ins fr t) (F' : Front es (ins ++ [v]) fr') (P : TPart h es ins fr fr' v t later) : TInv h es (ins ++ [v]) fr' later :=
  ⟨F', P.key, P.nd, P.can, fun f => by rw [P.val, T.val], by
    have := P.sz
    have := T.sz
    rw [List.length_append, List.length_singleton, Nat.pow_succ]; omega⟩
theorem TInv.start {h : List Int} {es : List Edge} : TInv h es [] [] [([], [((0, 0), 1)])] where
  front := ⟨List.nodup_nil, fun v => ⟨fun h => absurd h (by simp), fun h => absurd h.1 (by simp)⟩⟩
  key := fun x hx => by
    have e : x = ([], [((0, 0), 1)]) := by simpa using hx
    subst e
    exact ⟨rfl, fun b hb => by cases hb⟩
  nd := by simp
  can := fun x hx => by
    have e : x = ([], [((0, 0), 1)]) := by simpa using hx
    subst e
    exact ⟨List.pairwise_singleton _ _, fun y hy => by
      have e : y = ((0, 0), 1) := by simpa using hy
      subst e; decide⟩
  val := fun f => by
    show ev [((0, 0), 1)] (GT h es [] [] f []) + 0 = _
    rw [Z_ev]
    simp only [ev_cons, ev_nil]
    have : GT h es [] [] f [] (0, 0) = sm (states h.length) fun s => f (cst h es s, ups s) := by
      unfold GT
      refine sm_congr _ fun s hs => ?_
      have hI := states_is hs
      rw [if_pos (agree_iff.mpr fun u hu => by cases hu)]
      have : addE (0, 0) (rest h es [] s) = (cst h es s, ups s) := by
        unfold rest addE cst ups
        simp [hI.len]
      rw [this]
    rw [this]; omega
  sz := by simp [tsz]
/-- all vertices are in: what stands at the key () is the partition polynomial -/
theorem TInv.end_ {h : List Int} {es : List Edge} {ins fr : List Nat} {t : List (List Int × Poly)} (T : TInv h es ins fr t) (w : Wf h es) (all : ∀ v, v < h.length → v ∈ ins) : fr = [] ∧ t = [([], Z h es)] := by
  have e : fr = [] := by
    cases fr with
    | nil => rfl
    | cons f r =>
      obtain ⟨_, x, hx, q⟩ := (T.front.mem f).mp List.mem_cons_self
      obtain ⟨ed, hed, z⟩ := near_mem.mp hx
      have := w.lt ed hed
      refine absurd (all x.1 ?_) q
      rcases z with z | z
      · rw [z.2]; exact this.2
      · rw [z.2.2]; show ed.1 < _; omega
  subst e
  refine ⟨rfl, ?_⟩
  have k0 : ∀ x ∈ t, x.1 = [] := fun x hx => List.eq_nil_of_length_eq_zero (T.key x hx).1
  have val : ∀ f, ev (tget t []) f = ev (Z h es) f := fun f => by
    have z := tev_one (W := GT h es ins [] f) (k := []) T.nd fun x hx ne => absurd (k0 x hx) ne
    rw [T.val] at z
    rw [z]
    refine ev_congr _ fun e => ?_
    unfold GT
    rw [sm_single (states_nd _) (rep_mem h.length 0 (.inl rfl)) fun s hs ne => ?_]
    · rw [if_pos (agree_iff.mpr fun u hu => ?_)]
      · have : rest h es ins (List.replicate h.length 0) = (0, 0) := by
          unfold rest
          rw [vs_congr (G := fun _ => 0) fun u hu => if_pos (all u hu), vs_zero, vs_congr (G := fun _ => 0) fun u hu => if_pos (all u hu), vs_zero, sm_congr (G := fun _ => 0) es fun ed hed => ?_, sm_zero]
          · rfl
          · have := w.lt ed hed
            exact if_pos ⟨all _ (by omega), all _ this.2⟩
        rw [this, addE_zero]
      · by_cases b : u < h.length
        · rw [at0_rep b]; unfold look; rfl
        · rw [at0_ge (by simp; omega)]; unfold look; rfl
    · refine if_neg fun z => ne (st_ext (states_is hs) (states_is (rep_mem h.length 0 (.inl rfl))) fun v hv => ?_)
      rw [at0_rep hv, agree_iff.mp z v (all v hv)]; unfold look; rfl
  match t, k0, T.nd, T.can, val with
  | [], _, _, _, val =>
    have := Z_sum h es
    have q := val fun _ => 1
    rw [this] at q
    have p : (0 : Int) < 2 ^ h.length := Int.pow_pos (by decide)
    simp [tget] at q; omega
  | [x], k0, _, can, val =>
    have e := k0 x List.mem_cons_self
    obtain ⟨k, p⟩ := x
    have e : k = [] := e
    subst e
    have g : tget [(([] : List Int), p)] [] = p := by unfold tget; rw [if_pos rfl]
    rw [g] at val
    have q : p = Z h es := canon_uniq (can _ List.mem_cons_self) (Z_canon h es) val
    rw [q]
  | x :: y :: r, k0, nd, _, _ =>
    have e1 := k0 x List.mem_cons_self
    have e2 := k0 y (List.mem_cons_of_mem _ List.mem_cons_self)
    rw [List.map_cons, List.nodup_cons] at nd
    exact absurd (by rw [e1, ← e2]; exact List.mem_map_of_mem List.mem_cons_self) nd.1
end SF

set_option maxRecDepth 100000
/-! # Clusters: the tables over partitions -/
namespace SF
def pat (parts : List Int) (v : Nat) : Int := parts.getD v (-1)
theorem pat_get {parts : List Int} {v : Nat} (h : v < parts.length) : parts[v]? = some (pat parts v) := by
  unfold pat; rw [List.getD_eq_getElem?_getD, List.getElem?_eq_getElem h]; rfl
theorem pat_mem {parts : List Int} {v : Nat} (h : v < parts.length) : pat parts v ∈ parts := by
  unfold pat; rw [List.getD_eq_getElem?_getD, List.getElem?_eq_getElem h]; exact List.getElem_mem h
theorem pat_ge {parts : List Int} {v : Nat} (h : parts.length ≤ v) : pat parts v = -1 := by
  unfold pat; rw [List.getD_eq_getElem?_getD, List.getElem?_eq_none h]; rfl
theorem pat_map {parts : List Int} {v : Nat} (h : v < parts.length) (g : Int → Int) : pat (parts.map g) v = g (pat parts v) := by
  unfold pat
  rw [List.getD_eq_getElem?_getD, List.getD_eq_getElem?_getD, List.getElem?_map, List.getElem?_eq_getElem h]; rfl
theorem pat_set {parts : List Int} {u v : Nat} {x : Int} (h : u < parts.length) : pat (parts.set u x) v = if u = v then x else pat parts v := by
  unfold pat
  rw [List.getD_eq_getElem?_getD, List.getD_eq_getElem?_getD, List.getElem?_set]
  by_cases e : u = v
  · subst e; rw [if_pos rfl, if_pos rfl, if_pos h]; rfl
  · rw [if_neg e, if_neg e]
theorem pat_ext {p q : List Int} (hl : p.length = q.length) (h : ∀ v, v < p.length → pat p v = pat q v) : p = q := by
  refine List.ext_getElem hl fun i h1 h2 => ?_
  have := h i h1
  unfold pat at this
  rw [List.getD_eq_getElem?_getD, List.getD_eq_getElem?_getD, List.getElem?_eq_getElem h1, List.getElem?_eq_getElem h2] at this
  exact this
/-- a state that is alike on each living cluster, 0 on the done vertices -/
def okS (n : Nat) (parts s : List Int) : Bool := (List.range n).all fun u => (!(pat parts u == -1) || at0 s u == 0) && (List.range n).all fun v => !(pat parts u == pat parts v) || at0 s u == at0 s v
theorem okS_iff {n : Nat} {parts s : List Int} : okS n parts s = true ↔ (∀ u, u < n → pat parts u = -1 → at0 s u = 0) ∧ ∀ u v, u < n → v < n → pat parts u = pat parts v → at0 s u = at0 s v := by
  unfold okS
  simp only [List.all_eq_true, List.mem_range, Bool.and_eq_true, Bool.or_eq_true, Bool.not_eq_true', beq_eq_false_iff_ne, beq_iff_eq]
  constructor
  · intro h
    refine ⟨fun u hu e => (h u hu).1.resolve_left fun z => z e, fun u v hu hv e => ((h u hu).2 v hv).resolve_left fun z => z e⟩
  · rintro ⟨h1, h2⟩ u hu
    refine ⟨?_, fun v hv => ?_⟩
    · by_cases c : pat parts u = -1
      · exact .inr (h1 u hu c)
      · exact .inl c
    · by_cases c : pat parts u = pat parts v
      · exact .inr (h2 u v hu hv c)
      · exact .inl c
def restC (h : List Int) (es : List Edge) (k : Nat) (parts s : List Int) : Ex :=
  (vs h.length (fun v => if pat parts v = -1 then 0 else fld h v * at0 s v) + sm (es.drop k) (ecost s), vs h.length (fun v => if pat parts v = -1 then 0 else at0 s v))
def GC (h : List Int) (es : List Edge) (k : Nat) (f : Ex → Int) (parts : List Int) (e : Ex) : Int :=
  sm (states h.length) fun s => if okS h.length parts s = true then f (addE e (restC h es k parts s)) else 0
def wC (n : Nat) (parts : List Int) : Nat := ((states n).filter (okS n parts)).length
theorem wC_sm (n : Nat) (parts : List Int) : sm (states n) (fun s => if okS n parts s = true then 1 else 0) = (wC n parts : Int) := by
  unfold wC
  generalize states n = l
  induction l with
  | nil => rfl
  | cons a r ih =>
    rw [sm_cons, ih]
    by_cases c : okS n parts a = true
    · rw [if_pos c, List.filter_cons_of_pos c, List.length_cons]; omega
    · rw [if_neg c, List.filter_cons_of_neg c]; omega
theorem wC_pos (n : Nat) (parts : List Int) : 1 ≤ wC n parts := by
  unfold wC
  refine List.length_pos_of_mem (a := List.replicate n 0) (List.mem_filter.mpr ⟨rep_mem n 0 (.inl rfl), okS_iff.mpr ⟨fun u hu _ => at0_rep hu, fun u v hu hv _ => by rw [at0_rep hu, at0_rep hv]⟩⟩)
def doneV (es : List Edge) (k : Nat) (v : Nat) : Prop := ∀ e ∈ es.drop k, e.1 ≠ v ∧ e.2.1 ≠ v
instance (es : List Edge) (k v : Nat) : Decidable (doneV es k v) := inferInstanceAs (Decidable (∀ e ∈ es.drop k, e.1 ≠ v ∧ e.2.1 ≠ v))
def members (n : Nat) (parts : List Int) (c : Int) : List Nat := (List.range n).filter fun v => decide (pat parts v = c)
theorem mem_members {n : Nat} {parts : List Int} {c : Int} {v : Nat} : v ∈ members n parts c ↔ v < n ∧ pat parts v = c := by
  unfold members; simp
theorem sum_filter (n : Nat) (p : Nat → Bool) (F : Nat → Int) : (((List.range n).filter p).map F).sum = vs n fun v => if p v = true then F v else 0 := by
  induction n with
  | zero => rfl
  | succ n ih =>
    rw [List.range_succ, List.filter_append, List.map_append, List.sum_append, ih]
    show _ = vs n (fun v => if p v = true then F v else 0) + if p n = true then F n else 0
    congr 1
    by_cases c : p n = true
    · simp [c]
    · simp [c]
theorem len_filter (n : Nat) (p : Nat → Bool) : (((List.range n).filter p).length : Int) = vs n fun v => if p v = true then 1 else 0 := by
  induction n with
  | zero => rfl
  | succ n ih =>
    rw [List.range_succ, List.filter_append, List.length_append, Int.natCast_add, ih]
    show _ = vs n (fun v => if p v = true then 1 else 0) + if p n = true then 1 else 0
    congr 1
    by_cases c : p n = true
    · simp [c]
    · simp [c]
section
variable {h : List Int} {es : List Edge} {k : Nat} {parts found : List Int} {c : Int}
/-- a cluster whose edges are done comes off, with its factor -/
theorem GC_mark (hf : ∀ v, v < h.length → pat found v = if pat parts v = c then -1 else pat parts v) (hc : c ≠ -1) {v0 : Nat} (h0 : v0 < h.length) (e0 : pat parts v0 = c) (dn : ∀ v, v < h.length → pat parts v = c → doneV es k v)
    (lt : ∀ e ∈ es, e.1 < e.2.1 ∧ e.2.1 < h.length) (f : Ex → Int) (e : Ex) :
    GC h es k f parts e = GC h es k f found e + GC h es k f found (addE e (((members h.length parts c).map (fld h)).sum, (members h.length parts c).length)) := by
  have ltd : ∀ x ∈ es.drop k, x.1 < x.2.1 ∧ x.2.1 < h.length := fun x hx => lt x (List.mem_of_mem_drop hx)
  have hm1 : ((members h.length parts c).map (fld h)).sum = vs h.length fun v => if pat parts v = c then fld h v else 0 := by
    unfold members; rw [sum_filter]
    exact vs_congr fun v _ => by simp
  have hm2 : ((members h.length parts c).length : Int) = vs h.length fun v => if pat parts v = c then 1 else 0 := by
    unfold members; rw [len_filter]
    exact vs_congr fun v _ => by simp
  -- the cluster down
  have A : sm (states h.length) (fun s => if (okS h.length parts s && at0 s v0 == 0) = true then f (addE e (restC h es k parts s)) else 0) = GC h es k f found e := by
    unfold GC
    refine sm_congr _ fun s hs => ?_
    have hI := states_is hs
    have eq : (okS h.length parts s && at0 s v0 == 0) = true ↔ okS h.length found s = true := by
      simp only [Bool.and_eq_true, beq_iff_eq, okS_iff]
      constructor
      · rintro ⟨⟨h1, h2⟩, h3⟩
        have z : ∀ u, u < h.length → pat found u = -1 → at0 s u = 0 := fun u hu hp => by
          rw [hf u hu] at hp
          by_cases q : pat parts u = c
          · rw [h2 u v0 hu h0 (by rw [q, e0]), h3]
          · rw [if_neg q] at hp; exact h1 u hu hp
        refine ⟨z, fun u v hu hv hp => ?_⟩
        by_cases q : pat found u = -1
        · rw [z u hu q, z v hv (hp ▸ q)]
        · have q2 : pat found v ≠ -1 := hp ▸ q
          rw [hf u hu] at q hp
          rw [hf v hv] at q2 hp
          by_cases r : pat parts u = c
          · rw [if_pos r] at q; exact absurd rfl q
          · by_cases r2 : pat parts v = c
            · rw [if_pos r2] at q2; exact absurd rfl q2
            · rw [if_neg r, if_neg r2] at hp
              exact h2 u v hu hv hp
      · rintro ⟨h1, h2⟩
        have h3 : at0 s v0 = 0 := h1 v0 h0 (by rw [hf v0 h0, if_pos e0])
        refine ⟨⟨fun u hu hp => h1 u hu ?_, fun u v hu hv hp => h2 u v hu hv ?_⟩, h3⟩
        · rw [hf u hu, if_neg (fun z => hc (z.symm.trans hp))]; exact hp
        · rw [hf u hu, hf v hv, hp]
    by_cases d : okS h.length found s = true
    · rw [if_pos d, if_pos (eq.mpr d)]
      have z := okS_iff.mp d
      have : restC h es k parts s = restC h es k found s := by
        unfold restC
        have e1 : vs h.length (fun v => if pat parts v = -1 then 0 else fld h v * at0 s v) = vs h.length fun v => if pat found v = -1 then 0 else fld h v * at0 s v := vs_congr fun v hv => by
          by_cases q : pat parts v = c
          · have q1 : pat found v = -1 := by rw [hf v hv, if_pos q]
            rw [if_pos q1, z.1 v hv q1]
            split <;> simp
          · rw [hf v hv, if_neg q]
        have e2 : vs h.length (fun v => if pat parts v = -1 then 0 else at0 s v) = vs h.length fun v => if pat found v = -1 then 0 else at0 s v := vs_congr fun v hv => by
          by_cases q : pat parts v = c
          · have q1 : pat found v = -1 := by rw [hf v hv, if_pos q]
            rw [if_pos q1, z.1 v hv q1]
            split <;> simp
          · rw [hf v hv, if_neg q]
        rw [e1, e2]
      rw [this]
    · rw [if_neg d, if_neg fun q => d (eq.mp q)]
  -- the cluster up
  have B : sm (states h.length) (fun s => if (okS h.length parts s && at0 s v0 == 1) = true then f (addE e (restC h es k parts s)) else 0) = GC h es k f found (addE e (((members h.length parts c).map (fld h)).sum, (members h.length parts c).length)) := by
    rw [← sm_flip fun v => decide (pat parts v = c)]
    unfold GC
    refine sm_congr _ fun s hs => ?_
    have hI := states_is hs
    have fl : ∀ v, v < h.length → at0 (flip (fun v => decide (pat parts v = c)) s) v = if pat parts v = c then 1 - at0 s v else at0 s v := fun v hv => by
      rw [flip_at (by rw [hI.len]; exact hv)]; simp
    generalize flip (fun v => decide (pat parts v = c)) s = s' at fl
    have eq : (okS h.length parts s' && at0 s' v0 == 1) = true ↔ okS h.length found s = true := by
      simp only [Bool.and_eq_true, beq_iff_eq, okS_iff]
      constructor
      · rintro ⟨⟨h1, h2⟩, h3⟩
        have z : ∀ u, u < h.length → pat found u = -1 → at0 s u = 0 := fun u hu hp => by
          rw [hf u hu] at hp
          by_cases q : pat parts u = c
          · have := h2 u v0 hu h0 (by rw [q, e0])
            rw [fl u hu, if_pos q, h3] at this; omega
          · rw [if_neg q] at hp
            have := h1 u hu hp
            rw [fl u hu, if_neg q] at this; exact this
        refine ⟨z, fun u v hu hv hp => ?_⟩
        by_cases q : pat found u = -1
        · rw [z u hu q, z v hv (hp ▸ q)]
        · have q2 : pat found v ≠ -1 := hp ▸ q
          rw [hf u hu] at q hp
          rw [hf v hv] at q2 hp
          by_cases r : pat parts u = c
          · rw [if_pos r] at q; exact absurd rfl q
          · by_cases r2 : pat parts v = c
            · rw [if_pos r2] at q2; exact absurd rfl q2
            · rw [if_neg r, if_neg r2] at hp
              have := h2 u v hu hv hp
              rw [fl u hu, fl v hv, if_neg r, if_neg r2] at this; exact this
      · rintro ⟨h1, h2⟩
        have m : ∀ u, u < h.length → pat parts u = c → at0 s' u = 1 := fun u hu q => by
          rw [fl u hu, if_pos q, h1 u hu (by rw [hf u hu, if_pos q])]; rfl
        refine ⟨⟨fun u hu hp => ?_, fun u v hu hv hp => ?_⟩, m v0 h0 e0⟩
        · have q : ¬ pat parts u = c := fun z => hc (z.symm.trans hp)
          rw [fl u hu, if_neg q]
          exact h1 u hu (by rw [hf u hu, if_neg q]; exact hp)
        · by_cases q : pat parts u = c
          · rw [m u hu q, m v hv (hp ▸ q)]
          · have q2 : ¬ pat parts v = c := hp ▸ q
            rw [fl u hu, fl v hv, if_neg q, if_neg q2]
            exact h2 u v hu hv (by rw [hf u hu, hf v hv, hp])
    by_cases d : okS h.length found s = true
    · rw [if_pos d, if_pos (eq.mpr d), addE_assoc]
      have z := okS_iff.mp d
      have : restC h es k parts s' = addE (((members h.length parts c).map (fld h)).sum, (members h.length parts c).length) (restC h es k found s) := by
        unfold restC addE
        have e1 : vs h.length (fun v => if pat parts v = -1 then 0 else fld h v * at0 s' v) = vs h.length (fun v => if pat parts v = c then fld h v else 0) + vs h.length fun v => if pat found v = -1 then 0 else fld h v * at0 s v := by
          rw [← vs_add]
          refine vs_congr fun v hv => ?_
          by_cases q : pat parts v = c
          · have q1 : pat found v = -1 := by rw [hf v hv, if_pos q]
            rw [if_pos q, if_pos q1, if_neg (q ▸ hc), fl v hv, if_pos q, z.1 v hv q1]; simp
          · rw [if_neg q, hf v hv, if_neg q, fl v hv, if_neg q]; simp
        have e2 : vs h.length (fun v => if pat parts v = -1 then 0 else at0 s' v) = vs h.length (fun v => if pat parts v = c then 1 else 0) + vs h.length fun v => if pat found v = -1 then 0 else at0 s v := by
          rw [← vs_add]
          refine vs_congr fun v hv => ?_
          by_cases q : pat parts v = c
          · have q1 : pat found v = -1 := by rw [hf v hv, if_pos q]
            rw [if_pos q, if_pos q1, if_neg (q ▸ hc), fl v hv, if_pos q, z.1 v hv q1]; simp
          · rw [if_neg q, hf v hv, if_neg q, fl v hv, if_neg q]; simp
        have e3 : sm (es.drop k) (ecost s') = sm (es.drop k) (ecost s) := sm_congr _ fun x hx => by
          have b := ltd x hx
          have n1 : ¬ pat parts x.1 = c := fun q => (dn x.1 (by omega) q x hx).1 rfl
          have n2 : ¬ pat parts x.2.1 = c := fun q => (dn x.2.1 b.2 q x hx).2 rfl
          unfold ecost
          rw [fl x.1 (by omega), fl x.2.1 b.2, if_neg n1, if_neg n2]
        simp only [Prod.mk.injEq]
        exact ⟨by rw [e1, e3, hm1]; omega, by rw [e2, hm2]⟩
      rw [this]
    · rw [if_neg d, if_neg fun q => d (eq.mp q)]
  rw [← A, ← B, ← sm_add]
  unfold GC
  refine sm_congr _ fun s hs => ?_
  have hb := (states_is hs).at v0
  by_cases d : okS h.length parts s = true
  · rw [if_pos d]
    rcases hb with q | q <;> rw [d, q] <;> simp
  · have d : okS h.length parts s = false := by simpa using d
    rw [d]; simp
/-- the states of a marked partition are half as many -/
theorem wC_mark (hf : ∀ v, v < h.length → pat found v = if pat parts v = c then -1 else pat parts v) (hc : c ≠ -1) {v0 : Nat} (h0 : v0 < h.length) (e0 : pat parts v0 = c) : wC h.length parts = 2 * wC h.length found := by
  have q := GC_mark (es := []) (k := 0) hf hc h0 e0 (fun _ _ _ _ h => absurd h (by simp)) (fun _ h => absurd h (by simp)) (fun _ => 1) (0, 0)
  unfold GC at q
  rw [wC_sm, wC_sm] at q
  omega
theorem GC_edge {u v : Nat} {j : Int} (he : es[k]? = some (u, v, j)) (hu : u < h.length) (hv : v < h.length) (pu : 0 ≤ pat parts u) (pv : 0 ≤ pat parts v) {low high : Int} (hl : low = min (pat parts u) (pat parts v)) (hh : high = max (pat parts u) (pat parts v))
    (hj : ∀ w, w < h.length → pat found w = if pat parts w = high then low else pat parts w) (f : Ex → Int) (e : Ex) :
    GC h es k f parts e = GC h es (k + 1) f parts (addE e (j, 0)) + GC h es (k + 1) f found e - GC h es (k + 1) f found (addE e (j, 0)) := by
  have key : ∀ s ∈ states h.length, (if okS h.length parts s = true then f (addE e (restC h es k parts s)) else 0) + (if okS h.length found s = true then f (addE (addE e (j, 0)) (restC h es (k + 1) found s)) else 0) =
      (if okS h.length parts s = true then f (addE (addE e (j, 0)) (restC h es (k + 1) parts s)) else 0) + if okS h.length found s = true then f (addE e (restC h es (k + 1) found s)) else 0 := fun s hs => by
    have eq : okS h.length found s = true ↔ okS h.length parts s = true ∧ at0 s u = at0 s v := by
      simp only [okS_iff]
      have fu : pat found u = low := by rw [hj u hu]; split <;> omega
      have fv : pat found v = low := by rw [hj v hv]; split <;> omega
      constructor
      · rintro ⟨h1, h2⟩
        refine ⟨⟨fun w hw hp => h1 w hw ?_, fun w x hw hx hp => h2 w x hw hx (by rw [hj w hw, hj x hx, hp])⟩, h2 u v hu hv (by rw [fu, fv])⟩
        rw [hj w hw, if_neg (by omega)]; exact hp
      · rintro ⟨⟨h1, h2⟩, h3⟩
        -- who has the low part has u's spin
        have lowS : ∀ w, w < h.length → (pat parts w = high ∨ pat parts w = low) → at0 s w = at0 s u := fun w hw q => by
          by_cases c1 : pat parts w = pat parts u
          · exact h2 w u hw hu c1
          · have : pat parts w = pat parts v := by omega
            rw [h2 w v hw hv this, h3]
        refine ⟨fun w hw hp => h1 w hw ?_, fun w x hw hx hp => ?_⟩
        · rw [hj w hw] at hp
          split at hp
          · omega
          · exact hp
        · rw [hj w hw, hj x hx] at hp
          by_cases c1 : pat parts w = high
          · rw [if_pos c1] at hp
            rw [lowS w hw (.inl c1)]
            by_cases c2 : pat parts x = high
            · rw [lowS x hx (.inl c2)]
            · rw [if_neg c2] at hp
              rw [lowS x hx (.inr hp.symm)]
          · rw [if_neg c1] at hp
            by_cases c2 : pat parts x = high
            · rw [if_pos c2] at hp
              rw [lowS w hw (.inr hp), lowS x hx (.inl c2)]
            · rw [if_neg c2] at hp
              exact h2 w x hw hx hp
    have rk : restC h es k parts s = addE (ecost s (u, v, j), 0) (restC h es (k + 1) parts s) := by
      have hk : k < es.length := (List.getElem?_eq_some_iff.mp he).1
      have : es.drop k = (u, v, j) :: es.drop (k + 1) := by
        rw [List.drop_eq_getElem_cons hk]
        congr 1
        exact (List.getElem?_eq_some_iff.mp he).2
      unfold restC addE
      rw [this, sm_cons]
      simp only [Prod.mk.injEq]
      omega
    have rj : restC h es (k + 1) found s = restC h es (k + 1) parts s := by
      have cnd : ∀ w, w < h.length → (pat found w = -1 ↔ pat parts w = -1) := fun w hw => by
        rw [hj w hw]
        split <;> omega
      unfold restC
      have e1 : vs h.length (fun v => if pat found v = -1 then 0 else fld h v * at0 s v) = vs h.length fun v => if pat parts v = -1 then 0 else fld h v * at0 s v := vs_congr fun w hw => by
        by_cases q : pat parts w = -1
        · rw [if_pos q, if_pos ((cnd w hw).mpr q)]
        · rw [if_neg q, if_neg fun z => q ((cnd w hw).mp z)]
      have e2 : vs h.length (fun v => if pat found v = -1 then 0 else at0 s v) = vs h.length fun v => if pat parts v = -1 then 0 else at0 s v := vs_congr fun w hw => by
        by_cases q : pat parts w = -1
        · rw [if_pos q, if_pos ((cnd w hw).mpr q)]
        · rw [if_neg q, if_neg fun z => q ((cnd w hw).mp z)]
      rw [e1, e2]
    rw [rj, rk]
    by_cases d : okS h.length parts s = true
    · by_cases z : at0 s u = at0 s v
      · rw [if_pos (eq.mpr ⟨d, z⟩), if_pos (eq.mpr ⟨d, z⟩), if_pos d, if_pos d]
        have : ecost s (u, v, j) = 0 := if_pos z
        rw [this, show addE (0, 0) (restC h es (k + 1) parts s) = restC h es (k + 1) parts s by rw [addE_comm, addE_zero]]; omega
      · rw [if_neg fun q => z (eq.mp q).2, if_neg fun q => z (eq.mp q).2, if_pos d, if_pos d]
        have : ecost s (u, v, j) = j := if_neg z
        rw [this, addE_assoc]
    · rw [if_neg d, if_neg d, if_neg fun q => d (eq.mp q).1, if_neg fun q => d (eq.mp q).1]
  have := sm_congr _ key
  rw [sm_add, sm_add] at this
  unfold GC
  omega
theorem wC_join {u v : Nat} {n : Nat} (hu : u < n) (hv : v < n) (pu : 0 ≤ pat parts u) (pv : 0 ≤ pat parts v) {low high : Int} (hl : low = min (pat parts u) (pat parts v)) (hh : high = max (pat parts u) (pat parts v))
    (hj : ∀ w, w < n → pat found w = if pat parts w = high then low else pat parts w) : wC n found ≤ wC n parts := by
  have : sm (states n) (fun s => if okS n found s = true then 1 else 0) ≤ sm (states n) fun s => if okS n parts s = true then 1 else 0 := by
    refine sm_le _ fun s _ => ?_
    by_cases d : okS n found s = true
    · have : okS n parts s = true := by
        rw [okS_iff] at d ⊢
        refine ⟨fun w hw hp => d.1 w hw ?_, fun w x hw hx hp => d.2 w x hw hx (by rw [hj w hw, hj x hx, hp])⟩
        rw [hj w hw, if_neg (by omega)]; exact hp
      rw [if_pos d, if_pos this]; omega
    · rw [if_neg d]; split <;> omega
  rw [wC_sm, wC_sm] at this
  omega
end
/-! ### the last edge of each vertex -/
def lastF (es : List Edge) (v : Nat) : Int := (es.foldl (fun (p : Nat × Int) e => (p.1 + 1, if e.1 = v ∨ e.2.1 = v then (p.1 : Int) else p.2)) (0, -1)).2
theorem last_fst (v : Nat) : ∀ (es : List Edge) (p : Nat × Int), (es.foldl (fun (p : Nat × Int) e => (p.1 + 1, if e.1 = v ∨ e.2.1 = v then (p.1 : Int) else p.2)) p).1 = p.1 + es.length
  | [], p => rfl
  | e :: r, p => by rw [List.foldl_cons, last_fst v r, List.length_cons]; show p.1 + 1 + r.length = _; omega
theorem last_snoc (es : List Edge) (e : Edge) (v : Nat) : lastF (es ++ [e]) v = if e.1 = v ∨ e.2.1 = v then (es.length : Int) else lastF es v := by
  unfold lastF
  rw [List.foldl_append]
  simp only [List.foldl_cons, List.foldl_nil]
  rw [last_fst]
  simp
theorem last_lt (v : Nat) (es : List Edge) : lastF es v < es.length := by
  induction hn : es.length generalizing es with
  | zero =>
    have : es = [] := List.eq_nil_of_length_eq_zero hn
    subst this; show (-1 : Int) < 0; decide
  | succ n ih =>
    have hne : es ≠ [] := fun z => by subst z; simp at hn
    rw [← List.dropLast_concat_getLast hne, last_snoc]
    have hl : es.dropLast.length = n := by rw [List.length_dropLast]; omega
    have := ih _ hl
    split <;> omega
theorem last_done (v : Nat) (es : List Edge) : ∀ k, k ≤ es.length → (lastF es v < k ↔ doneV es k v) := by
  induction hn : es.length generalizing es with
  | zero =>
    have : es = [] := List.eq_nil_of_length_eq_zero hn
    subst this
    intro k hk
    have : k = 0 := by omega
    subst this
    exact ⟨fun _ e h => absurd h (by simp), fun _ => by show (-1 : Int) < 0; decide⟩
  | succ n ih =>
    have hne : es ≠ [] := fun z => by subst z; simp at hn
    have hl : es.dropLast.length = n := by rw [List.length_dropLast]; omega
    have ih := ih _ hl
    have hlt := last_lt v es.dropLast
    rw [← List.dropLast_concat_getLast hne]
    generalize es.dropLast = l at *
    generalize es.getLast hne = x
    intro k hk
    rw [last_snoc]
    by_cases c : k = n + 1
    · subst c
      refine ⟨fun _ e h => ?_, fun _ => by split <;> omega⟩
      rw [List.drop_of_length_le (by simp; omega)] at h
      exact absurd h (by simp)
    · have d : (l ++ [x]).drop k = l.drop k ++ [x] := List.drop_append_of_le_length (by omega)
      unfold doneV at ih ⊢
      rw [d]
      by_cases t : x.1 = v ∨ x.2.1 = v
      · rw [if_pos t]
        refine ⟨fun z => by omega, fun z => ?_⟩
        have := z x (by simp)
        rcases t with t | t
        · exact absurd t this.1
        · exact absurd t this.2
      · rw [if_neg t, ih k (by omega)]
        constructor
        · intro z e he
          rcases List.mem_append.mp he with q | q
          · exact z e q
          · have : e = x := by simpa using q
            subst this
            exact ⟨fun y => t (.inl y), fun y => t (.inr y)⟩
        · exact fun z e he => z e (List.mem_append_left _ he)
/-! ### one number put into a table -/
structure Put (h : List Int) (es : List Edge) (k : Nat) (parts : List Int) (p : Poly) (found : List Int) (q : Poly) : Prop where
  len : found.length = h.length
  lo : ∀ v, v < h.length → -1 ≤ pat found v
  dn : ∀ v, v < h.length → pat found v = -1 → doneV es k v
  act : ∀ v, v < h.length → pat found v ≠ -1 → ∃ u, u < h.length ∧ pat found u = pat found v ∧ ¬ doneV es k u
  val : ∀ f, ev q (GC h es k f found) = ev p (GC h es k f parts)
  sz : wC h.length found * nrm q ≤ wC h.length parts * nrm p
  can : Canon q
/-- the groups behind some vertices: their labels and their vertices -/
structure Grp (i : Nat) (parts : List Int) (gs : List (Int × List Nat)) : Prop where
  nd : (gs.map (·.1)).Nodup
  are : ∀ g ∈ gs, 0 ≤ g.1 ∧ g.2 = members i parts g.1 ∧ g.2 ≠ []
  all : ∀ v, v < i → 0 ≤ pat parts v → ∃ g ∈ gs, g.1 = pat parts v
/-- the state of the loop over the groups: gs are those behind -/
structure PutI (h : List Int) (es : List Edge) (k : Nat) (parts : List Int) (p : Poly) (gs : List (Int × List Nat)) (found : List Int) (q : Poly) : Prop where
  len : found.length = h.length
  pt : ∀ v, v < h.length → pat found v = if ∃ g ∈ gs, g.1 = pat parts v ∧ ∀ u ∈ g.2, doneV es k u then -1 else pat parts v
  val : ∀ f, ev q (GC h es k f found) = ev p (GC h es k f parts)
  sz : wC h.length found * nrm q ≤ wC h.length parts * nrm p
  can : Canon q
theorem PutI.start {h : List Int} {es : List Edge} {k : Nat} {parts : List Int} {p : Poly} (hl : parts.length = h.length) (hp : Canon p) : PutI h es k parts p [] parts p :=
  ⟨hl, fun v _ => by rw [if_neg (fun ⟨g, hg, _⟩ => absurd hg (by simp))], fun _ => rfl, Nat.le_refl _, hp⟩
/-- a group that is not done -/
theorem PutI.skip {h : List Int} {es : List Edge} {k : Nat} {parts found : List Int} {p q : Poly} {gs : List (Int × List Nat)} {g : Int × List Nat} (P : PutI h es k parts p gs found q) (nd : ¬ ∀ u ∈ g.2, doneV es k u) :
    PutI h es k parts p (gs ++ [g]) found q :=
  ⟨P.len, fun v hv => by
    rw [P.pt v hv]
    have : (∃ g' ∈ gs ++ [g], g'.1 = pat parts v ∧ ∀ u ∈ g'.2, doneV es k u) ↔ ∃ g' ∈ gs, g'.1 = pat parts v ∧ ∀ u ∈ g'.2, doneV es k u := by
      constructor
      · rintro ⟨g', hg, a, b⟩
        rcases List.mem_append.mp hg with z | z
        · exact ⟨g', z, a, b⟩
        · have : g' = g := by simpa using z
          subst this
          exact absurd b nd
      · rintro ⟨g', hg, a, b⟩
        exact ⟨g', List.mem_append_left _ hg, a, b⟩
    simp only [this], P.val, P.sz, P.can⟩
/-- a group that is done: its factor, its vertices marked -/
theorem PutI.mark {h : List Int} {es : List Edge} {k : Nat} {parts found found' : List Int} {p q : Poly} {gs : List (Int × List Nat)} {g : Int × List Nat} (w : Wf h es) (P : PutI h es k parts p gs found q) (g0 : 0 ≤ g.1) (gm : g.2 = members h.length parts g.1) (gn : g.2 ≠ [])
    (nd : g.1 ∉ gs.map (·.1)) (dn : ∀ u ∈ g.2, doneV es k u) (hl : found'.length = h.length) (hf : ∀ v, v < h.length → pat found' v = if v ∈ g.2 then -1 else pat found v) :
    PutI h es k parts p (gs ++ [g]) found' (times q (cf [((0, 0), 1), (((g.2.map (fld h)).sum, (g.2.length : Int)), 1)])) := by
  have none_ : ∀ v, v < h.length → pat parts v = g.1 → pat found v = g.1 := fun v hv e => by
    rw [P.pt v hv, if_neg]
    · exact e
    · rintro ⟨g', hg, a, _⟩
      exact nd (List.mem_map.mpr ⟨g', hg, a.trans e⟩)
  have same : ∀ v, v < h.length → (pat found v = g.1 ↔ v ∈ g.2) := fun v hv => by
    rw [gm, mem_members]
    refine ⟨fun e => ⟨hv, ?_⟩, fun z => none_ v hv z.2⟩
    rw [P.pt v hv] at e
    split at e
    · omega
    · exact e
  have mem_eq : members h.length found g.1 = g.2 := by
    rw [gm]
    unfold members
    refine List.filter_congr fun v hv => ?_
    have hv : v < h.length := List.mem_range.mp hv
    have := same v hv
    rw [gm, mem_members] at this
    by_cases c : pat found v = g.1
    · simp [c, (this.mp c).2]
    · have : ¬ pat parts v = g.1 := fun z => c (this.mpr ⟨hv, z⟩)
      simp [c, this]
  have hf' : ∀ v, v < h.length → pat found' v = if pat found v = g.1 then -1 else pat found v := fun v hv => by
    rw [hf v hv]
    by_cases c : v ∈ g.2
    · rw [if_pos c, if_pos ((same v hv).mpr c)]
    · rw [if_neg c, if_neg fun z => c ((same v hv).mp z)]
  obtain ⟨v0, hv0⟩ := List.exists_mem_of_ne_nil _ gn
  have b0 := mem_members.mp (gm ▸ hv0)
  have e0 : pat found v0 = g.1 := none_ v0 b0.1 b0.2
  have dn' : ∀ v, v < h.length → pat found v = g.1 → doneV es k v := fun v hv e => dn v ((same v hv).mp e)
  refine ⟨hl, fun v hv => ?_, fun f => ?_, ?_, times_canon _ _⟩
  · rw [hf' v hv]
    by_cases c : pat parts v = g.1
    · rw [if_pos (none_ v hv c), if_pos ⟨g, by simp, c.symm, dn⟩]
    · have c2 : ¬ pat found v = g.1 := fun z => c (by have := (same v hv).mp z; rw [gm, mem_members] at this; exact this.2)
      rw [if_neg c2, P.pt v hv]
      have : (∃ g' ∈ gs ++ [g], g'.1 = pat parts v ∧ ∀ u ∈ g'.2, doneV es k u) ↔ ∃ g' ∈ gs, g'.1 = pat parts v ∧ ∀ u ∈ g'.2, doneV es k u := by
        constructor
        · rintro ⟨g', hg, a, b⟩
          rcases List.mem_append.mp hg with z | z
          · exact ⟨g', z, a, b⟩
          · have : g' = g := by simpa using z
            subst this
            exact absurd a.symm c
        · rintro ⟨g', hg, a, b⟩
          exact ⟨g', List.mem_append_left _ hg, a, b⟩
      simp only [this]
  · rw [times_bi, ← P.val f, Int.one_mul, Int.one_mul, ← ev_add]
    refine ev_congr q fun e => ?_
    rw [GC_mark (es := es) (k := k) hf' (by omega) b0.1 e0 dn' w.lt f e, mem_eq, addE_zero]
  · have h1 := times_nrm q (cf [((0, 0), 1), (((g.2.map (fld h)).sum, (g.2.length : Int)), 1)])
    have h2 := bi_nrm (0, 0) ((g.2.map (fld h)).sum, (g.2.length : Int)) 1 1
    have h3 := wC_mark hf' (by omega) b0.1 e0
    have h4 := P.sz
    rw [h3] at h4
    have h5 : nrm (times q (cf [((0, 0), 1), (((g.2.map (fld h)).sum, (g.2.length : Int)), 1)])) ≤ nrm q * 2 := Nat.le_trans h1 (Nat.mul_le_mul_left _ h2)
    have h6 := Nat.mul_le_mul_left (wC h.length found') h5
    rw [← Nat.mul_assoc] at h6
    have : wC h.length found' * nrm q * 2 = 2 * wC h.length found' * nrm q := by rw [Nat.mul_comm 2, Nat.mul_right_comm]
    omega
theorem PutI.end_ {h : List Int} {es : List Edge} {k : Nat} {parts found : List Int} {p q : Poly} {gs : List (Int × List Nat)} (G : Grp h.length parts gs) (P : PutI h es k parts p gs found q)
    (lo : ∀ v, v < h.length → -1 ≤ pat parts v) (dn : ∀ v, v < h.length → pat parts v = -1 → doneV es k v) : Put h es k parts p found q where
  len := P.len
  lo := fun v hv => by
    rw [P.pt v hv]; split
    · omega
    · exact lo v hv
  dn := fun v hv e => by
    rw [P.pt v hv] at e
    split at e
    · rename_i c
      obtain ⟨g, hg, a, b⟩ := c
      refine b v ?_
      rw [(G.are g hg).2.1, mem_members]
      exact ⟨hv, a.symm⟩
    · exact dn v hv e
  act := fun v hv e => by
    have e' := e
    rw [P.pt v hv] at e'
    split at e'
    · exact absurd rfl e'
    · rename_i c
      obtain ⟨g, hg, a⟩ := G.all v hv (by have := lo v hv; omega)
      have nall : ¬ ∀ u ∈ g.2, doneV es k u := fun z => c ⟨g, hg, a, z⟩
      obtain ⟨u, z⟩ := Classical.not_forall.mp nall
      obtain ⟨hu, z⟩ := Classical.not_imp.mp z
      rw [(G.are g hg).2.1, mem_members] at hu
      refine ⟨u, hu.1, ?_, z⟩
      rw [P.pt u hu.1, P.pt v hv, hu.2, a]
  val := P.val
  sz := P.sz
  can := P.can
/-! ### the groups of a partition, vertex by vertex -/
def gput (gs : List (Int × List Nat)) (c : Int) (v : Nat) : List (Int × List Nat) := match gs with
  | [] => [(c, [v])]
  | g :: r => if g.1 = c then (g.1, g.2 ++ [v]) :: r else g :: gput r c v
theorem gput_mem {c : Int} {v : Nat} : ∀ {gs : List (Int × List Nat)} {g : Int × List Nat}, (gs.map (·.1)).Nodup → (g ∈ gput gs c v ↔ (g ∈ gs ∧ g.1 ≠ c) ∨ (g.1 = c ∧ ((∃ C, (c, C) ∈ gs ∧ g.2 = C ++ [v]) ∨ (c ∉ gs.map (·.1) ∧ g.2 = [v]))))
  | [], g, _ => by
    unfold gput
    obtain ⟨a, b⟩ := g
    simp
  | x :: r, g, nd => by
    rw [List.map_cons, List.nodup_cons] at nd
    unfold gput
    split
    · rename_i e
      constructor
      · intro h
        rcases List.mem_cons.mp h with q | q
        · subst q
          exact .inr ⟨e, .inl ⟨x.2, by rw [← e]; exact List.mem_cons_self, rfl⟩⟩
        · exact .inl ⟨List.mem_cons_of_mem _ q, fun z => nd.1 (List.mem_map.mpr ⟨g, q, z.trans e.symm⟩)⟩
      · rintro (⟨h1, h2⟩ | ⟨h1, ⟨C, h2, h3⟩ | ⟨h2, h3⟩⟩)
        · rcases List.mem_cons.mp h1 with q | q
          · subst q; exact absurd e h2
          · exact List.mem_cons_of_mem _ q
        · rcases List.mem_cons.mp h2 with q | q
          · have : g = (x.1, x.2 ++ [v]) := by
              obtain ⟨a, b⟩ := g
              rw [← q]
              simp only at h1 h3
              rw [h1, h3]
            rw [this]; exact List.mem_cons_self
          · exact absurd (List.mem_map.mpr ⟨(c, C), q, e.symm⟩) nd.1
        · exact absurd (by rw [List.map_cons, e]; exact List.mem_cons_self) h2
    · rename_i e
      rw [List.mem_cons, gput_mem nd.2]
      constructor
      · rintro (q | ⟨h1, h2⟩ | ⟨h1, ⟨C, h2, h3⟩ | ⟨h2, h3⟩⟩)
        · subst q; exact .inl ⟨List.mem_cons_self, e⟩
        · exact .inl ⟨List.mem_cons_of_mem _ h1, h2⟩
        · exact .inr ⟨h1, .inl ⟨C, List.mem_cons_of_mem _ h2, h3⟩⟩
        · refine .inr ⟨h1, .inr ⟨fun z => ?_, h3⟩⟩
          rcases List.mem_cons.mp (by rw [← List.map_cons]; exact z) with q | q
          · exact e q.symm
          · exact h2 q
      · rintro (⟨h1, h2⟩ | ⟨h1, ⟨C, h2, h3⟩ | ⟨h2, h3⟩⟩)
        · rcases List.mem_cons.mp h1 with q | q
          · exact .inl q
          · exact .inr (.inl ⟨q, h2⟩)
        · rcases List.mem_cons.mp h2 with q | q
          · exact absurd (by rw [← q]) e
          · exact .inr (.inr ⟨h1, .inl ⟨C, q, h3⟩⟩)
        · exact .inr (.inr ⟨h1, .inr ⟨fun z => h2 (List.mem_cons_of_mem _ z), h3⟩⟩)
theorem gput_keys {c : Int} {v : Nat} : ∀ (gs : List (Int × List Nat)), (gput gs c v).map (·.1) = if c ∈ gs.map (·.1) then gs.map (·.1) else gs.map (·.1) ++ [c]
  | [] => by simp [gput]
  | x :: r => by
    unfold gput
    split
    · rename_i e
      rw [if_pos (by rw [List.map_cons, e]; exact List.mem_cons_self)]; rfl
    · rename_i e
      rw [List.map_cons, gput_keys r]
      by_cases d : c ∈ r.map (·.1)
      · rw [if_pos d, if_pos (by rw [List.map_cons]; exact List.mem_cons_of_mem _ d)]; rfl
      · rw [if_neg d, if_neg fun z => ?_]
        · rfl
        · rcases List.mem_cons.mp (by rw [← List.map_cons]; exact z) with q | q
          · exact e q.symm
          · exact d q
theorem members_succ (i : Nat) (parts : List Int) (c : Int) : members (i + 1) parts c = if pat parts i = c then members i parts c ++ [i] else members i parts c := by
  unfold members
  rw [List.range_succ, List.filter_append]
  split
  · rename_i e; simp [e]
  · rename_i e; simp [e]
theorem Grp.start (parts : List Int) : Grp 0 parts [] := ⟨by simp, fun _ h => absurd h (by simp), fun _ h => absurd h (by omega)⟩
theorem Grp.skip {i : Nat} {parts : List Int} {gs : List (Int × List Nat)} (G : Grp i parts gs) (h : pat parts i < 0) : Grp (i + 1) parts gs where
  nd := G.nd
  are := fun g hg => by
    obtain ⟨a, b, c⟩ := G.are g hg
    refine ⟨a, ?_, c⟩
    rw [members_succ, if_neg (by omega)]; exact b
  all := fun v hv hp => by
    by_cases e : v = i
    · subst e; omega
    · exact G.all v (by omega) hp
theorem Grp.step {i : Nat} {parts : List Int} {gs : List (Int × List Nat)} (G : Grp i parts gs) (h : 0 ≤ pat parts i) : Grp (i + 1) parts (gput gs (pat parts i) i) where
  nd := by
    rw [gput_keys]
    split
    · exact G.nd
    · rename_i c
      rw [List.nodup_append]
      exact ⟨G.nd, by simp, fun a ha b hb => by
        have : b = pat parts i := by simpa using hb
        subst this
        exact fun z => c (z ▸ ha)⟩
  are := fun g hg => by
    rcases (gput_mem G.nd).mp hg with ⟨a, b⟩ | ⟨a, ⟨C, b, c⟩ | ⟨b, c⟩⟩
    · obtain ⟨x, y, z⟩ := G.are g a
      refine ⟨x, ?_, z⟩
      rw [members_succ, if_neg fun q => b q.symm]; exact y
    · obtain ⟨x, y, z⟩ := G.are _ b
      refine ⟨by omega, ?_, by rw [c]; simp⟩
      rw [members_succ, if_pos a.symm, c, a]
      simp only at y
      rw [y]
    · refine ⟨by omega, ?_, by rw [c]; simp⟩
      rw [members_succ, if_pos a.symm, c]
      have : members i parts g.1 = [] := by
        cases hm : members i parts g.1 with
        | nil => rfl
        | cons x r =>
          have hx : x ∈ members i parts g.1 := by rw [hm]; exact List.mem_cons_self
          obtain ⟨q1, q2⟩ := mem_members.mp hx
          obtain ⟨g', hg', e⟩ := G.all x q1 (by omega)
          exact absurd (List.mem_map.mpr ⟨g', hg', by rw [e, q2, a]⟩) b
      rw [this]; rfl
  all := fun v hv hp => by
    have hk : ∀ c, (c ∈ gs.map (·.1) ∨ c = pat parts i) → ∃ g ∈ gput gs (pat parts i) i, g.1 = c := fun c hc => by
      have : c ∈ (gput gs (pat parts i) i).map (·.1) := by
        rw [gput_keys]
        split
        · rename_i z
          rcases hc with q | q
          · exact q
          · exact q ▸ z
        · rcases hc with q | q
          · exact List.mem_append_left _ q
          · exact List.mem_append_right _ (by simp [q])
      obtain ⟨g, hg, e⟩ := List.mem_map.mp this
      exact ⟨g, hg, e⟩
    by_cases e : v = i
    · subst e; exact hk _ (.inr rfl)
    · obtain ⟨g, hg, q⟩ := G.all v (by omega) hp
      exact hk _ (.inl (List.mem_map.mpr ⟨g, hg, q⟩))
/-! ### the whole table -/
structure CInv (h : List Int) (es : List Edge) (k : Nat) (t : List (List Int × Poly)) : Prop where
  key : ∀ x ∈ t, x.1.length = h.length ∧ (∀ v, v < h.length → -1 ≤ pat x.1 v) ∧ (∀ v, v < h.length → pat x.1 v = -1 → doneV es k v) ∧ ∀ v, v < h.length → pat x.1 v ≠ -1 → ∃ u, u < h.length ∧ pat x.1 u = pat x.1 v ∧ ¬ doneV es k u
  nd : (t.map (·.1)).Nodup
  can : ∀ x ∈ t, Canon x.2
  val : ∀ f, tev t (GC h es k f) = ev (Z h es) f
  sz : tsz t (wC h.length) ≤ 3 ^ k * 2 ^ h.length
structure CPart (h : List Int) (es : List Edge) (k : Nat) (t later : List (List Int × Poly)) : Prop where
  key : ∀ x ∈ later, x.1.length = h.length ∧ (∀ v, v < h.length → -1 ≤ pat x.1 v) ∧ (∀ v, v < h.length → pat x.1 v = -1 → doneV es (k + 1) v) ∧ ∀ v, v < h.length → pat x.1 v ≠ -1 → ∃ u, u < h.length ∧ pat x.1 u = pat x.1 v ∧ ¬ doneV es (k + 1) u
  nd : (later.map (·.1)).Nodup
  can : ∀ x ∈ later, Canon x.2
  val : ∀ f, tev later (GC h es (k + 1) f) = tev t (GC h es k f)
  sz : tsz later (wC h.length) ≤ 3 * tsz t (wC h.length)
theorem CPart.start (h : List Int) (es : List Edge) (k : Nat) : CPart h es k [] [] :=
  ⟨fun _ h => absurd h (by simp), by simp, fun _ h => absurd h (by simp), fun _ => rfl, by simp [tsz]⟩
theorem CPart.step {h : List Int} {es : List Edge} {k : Nat} {t later : List (List Int × Poly)} {x : List Int × Poly} {u v : Nat} {j : Int} {joined found1 found2 : List Int} {q1 q2 : Poly} (P : CPart h es k t later) (he : es[k]? = some (u, v, j)) (hu : u < h.length) (hv : v < h.length)
    (pu : 0 ≤ pat x.1 u) (pv : 0 ≤ pat x.1 v) (hj : ∀ w, w < h.length → pat joined w = if pat x.1 w = max (pat x.1 u) (pat x.1 v) then min (pat x.1 u) (pat x.1 v) else pat x.1 w)
    (P1 : Put h es (k + 1) x.1 (times x.2 [((j, 0), 1)]) found1 q1) (P2 : Put h es (k + 1) joined (times x.2 (cf [((0, 0), 1), ((j, 0), -1)])) found2 q2) :
    CPart h es k (t ++ [x]) (tadd (tadd later found1 q1) found2 q2) where
  key := fun y hy => by
    rcases tadd_mem hy with q | q
    · rw [q.1]; exact ⟨P2.len, P2.lo, P2.dn, P2.act⟩
    · rcases tadd_mem q with q | q
      · rw [q.1]; exact ⟨P1.len, P1.lo, P1.dn, P1.act⟩
      · exact P.key y q
  nd := tput_nd (tput_nd P.nd)
  can := fun y hy => by
    rcases tadd_mem hy with q | q
    · exact q.2
    · rcases tadd_mem q with q | q
      · exact q.2
      · exact P.can y q
  val := fun f => by
    rw [tev_add, tev_add, P.val f, tev_snoc, P1.val, P2.val, times_mono, times_bi]
    rw [ev_congr (f := GC h es k f x.1) x.2 fun e => GC_edge he hu hv pu pv rfl rfl hj f e, ev_sub, ev_add]
    have : (ev x.2 fun e => GC h es (k + 1) f joined (addE e (0, 0))) = ev x.2 (GC h es (k + 1) f joined) := ev_congr _ fun e => by rw [addE_zero]
    have e2 : (ev x.2 fun e => GC h es (k + 1) f joined e) = ev x.2 (GC h es (k + 1) f joined) := rfl
    rw [this]; omega
  sz := by
    have h1 := tsz_add (wC h.length) found2 q2 (tadd later found1 q1)
    have h2 := tsz_add (wC h.length) found1 q1 later
    have h3 := P1.sz
    have h4 := P2.sz
    have h5 := mono_nrm x.2 j 0
    have h6 : nrm (times x.2 (cf [((0, 0), 1), ((j, 0), -1)])) ≤ nrm x.2 * 2 := Nat.le_trans (times_nrm _ _) (Nat.mul_le_mul_left _ (bi_nrm _ _ _ _))
    have h7 := wC_join hu hv pu pv rfl rfl hj
    have h8 := P.sz
    have h9 := Nat.mul_le_mul_left (wC h.length x.1) h5
    have h10 : wC h.length joined * nrm (times x.2 (cf [((0, 0), 1), ((j, 0), -1)])) ≤ wC h.length x.1 * (nrm x.2 * 2) := Nat.mul_le_mul h7 h6
    rw [← Nat.mul_assoc] at h10
    rw [tsz_snoc]; omega
theorem CInv.next {h : List Int} {es : List Edge} {k : Nat} {t later : List (List Int × Poly)} (T : CInv h es k t) (P : CPart h es k t later) : CInv h es (k + 1) later :=
  ⟨P.key, P.nd, P.can, fun f => by rw [P.val, T.val], by
    have := P.sz
    have := T.sz
    have : 3 ^ (k + 1) * 2 ^ h.length = 3 * (3 ^ k * 2 ^ h.length) := by rw [Nat.pow_succ, Nat.mul_comm (3 ^ k) 3, Nat.mul_assoc]
    omega⟩
def rangeI (n : Nat) : List Int := (List.range n).map fun (v : Nat) => (v : Int)
theorem pat_range {n v : Nat} (h : v < n) : pat (rangeI n) v = v := by
  unfold rangeI
  unfold pat
  rw [List.getD_eq_getElem?_getD, List.getElem?_map, List.getElem?_range h]; rfl
theorem okS_range {n : Nat} (s : List Int) : okS n (rangeI n) s = true := okS_iff.mpr ⟨fun u hu e => by rw [pat_range hu] at e; omega, fun u v hu hv e => by
  rw [pat_range hu, pat_range hv] at e
  have : u = v := by omega
  rw [this]⟩
theorem one_canon : Canon [((0, 0), 1)] := ⟨List.pairwise_singleton _ _, fun y hy => by
  have e : y = ((0, 0), 1) := by simpa using hy
  subst e; decide⟩
theorem CInv.start {h : List Int} {es : List Edge} {found : List Int} {q : Poly} (P : Put h es 0 (rangeI h.length) [((0, 0), 1)] found q) : CInv h es 0 (tadd [] found q) where
  key := fun y hy => by
    rcases tadd_mem hy with q | q
    · rw [q.1]; exact ⟨P.len, P.lo, P.dn, P.act⟩
    · exact absurd q (by simp)
  nd := tput_nd (by simp)
  can := fun y hy => by
    rcases tadd_mem hy with q | q
    · exact q.2
    · exact absurd q (by simp)
  val := fun f => by
    rw [tev_add, P.val]
    show 0 + ev [((0, 0), 1)] (GC h es 0 f (rangeI h.length)) = _
    rw [Z_ev]
    have : GC h es 0 f (rangeI h.length) (0, 0) = sm (states h.length) fun s => f (cst h es s, ups s) := by
      unfold GC
      refine sm_congr _ fun s hs => ?_
      have hI := states_is hs
      rw [if_pos (okS_range s)]
      have e1 : vs h.length (fun v => if pat (rangeI h.length) v = -1 then 0 else fld h v * at0 s v) = vs h.length fun v => fld h v * at0 s v := vs_congr fun v hv => by
        rw [if_neg (by rw [pat_range hv]; omega)]
      have e2 : vs h.length (fun v => if pat (rangeI h.length) v = -1 then 0 else at0 s v) = vs h.length (at0 s) := vs_congr fun v hv => by
        rw [if_neg (by rw [pat_range hv]; omega)]
      have : addE (0, 0) (restC h es 0 (rangeI h.length) s) = (cst h es s, ups s) := by
        unfold restC addE cst ups
        rw [e1, e2, hI.len]
        simp
      rw [this]
    simp only [ev_cons, ev_nil]
    rw [this]; omega
  sz := by
    have h1 := tsz_add (wC h.length) found q []
    have h2 := P.sz
    have h3 : wC h.length (rangeI h.length) = 2 ^ h.length := by
      unfold wC
      rw [List.filter_eq_self.mpr fun s _ => okS_range s, states_len]
    rw [h3] at h2
    have h4 : nrm [(((0 : Int), (0 : Int)), (1 : Int))] = 1 := rfl
    rw [h4] at h2
    have h5 : tsz ([] : List (List Int × Poly)) (wC h.length) = 0 := rfl
    rw [Nat.pow_zero]; omega
/-- all edges are done: the one key is (-1, ..), and there stands the partition polynomial -/
theorem CInv.end_ {h : List Int} {es : List Edge} {t : List (List Int × Poly)} (T : CInv h es es.length t) : t = [(List.replicate h.length (-1), Z h es)] := by
  have dn : ∀ v, doneV es es.length v := fun v e he => by
    rw [List.drop_length] at he
    exact absurd he (by simp)
  have k0 : ∀ x ∈ t, x.1 = List.replicate h.length (-1) := fun x hx => by
    obtain ⟨hl, _, _, act⟩ := T.key x hx
    refine pat_ext (by rw [hl]; simp) fun v hv => ?_
    have hv : v < h.length := by omega
    have e : pat (List.replicate h.length (-1)) v = -1 := by
      unfold pat
      rw [List.getD_eq_getElem?_getD, List.getElem?_replicate, if_pos hv]; rfl
    rw [e]
    by_cases c : pat x.1 v = -1
    · exact c
    · obtain ⟨u, _, _, nd⟩ := act v hv c
      exact absurd (dn u) nd
  have val : ∀ f, ev (tget t (List.replicate h.length (-1))) f = ev (Z h es) f := fun f => by
    have z := tev_one (W := GC h es es.length f) (k := List.replicate h.length (-1)) T.nd fun x hx ne => absurd (k0 x hx) ne
    rw [T.val] at z
    rw [z]
    refine ev_congr _ fun e => ?_
    have pm : ∀ v, pat (List.replicate h.length (-1)) v = -1 := fun v => by
      by_cases hv : v < h.length
      · unfold pat
        rw [List.getD_eq_getElem?_getD, List.getElem?_replicate, if_pos hv]; rfl
      · exact pat_ge (by simp; omega)
    unfold GC
    rw [sm_single (states_nd _) (rep_mem h.length 0 (.inl rfl)) fun s hs ne => ?_]
    · rw [if_pos (okS_iff.mpr ⟨fun u hu _ => at0_rep hu, fun u v hu hv _ => by rw [at0_rep hu, at0_rep hv]⟩)]
      have : restC h es es.length (List.replicate h.length (-1)) (List.replicate h.length 0) = (0, 0) := by
        unfold restC
        rw [List.drop_length, sm_nil, vs_congr (G := fun _ => 0) fun u _ => if_pos (pm u), vs_zero, vs_congr (G := fun _ => 0) fun u _ => if_pos (pm u), vs_zero]; rfl
      rw [this, addE_zero]
    · refine if_neg fun z => ne (st_ext (states_is hs) (states_is (rep_mem h.length 0 (.inl rfl))) fun v hv => ?_)
      rw [at0_rep hv, (okS_iff.mp z).1 v hv (pm v)]
  have nn : t ≠ [] := fun z => by
    have q := val fun _ => 1
    rw [Z_sum, z] at q
    have p : (0 : Int) < 2 ^ h.length := Int.pow_pos (by decide)
    simp [tget] at q; omega
  match t, k0, T.nd, T.can, val, nn with
  | [x], k0, _, can, val, _ =>
    have e := k0 x List.mem_cons_self
    obtain ⟨k, p⟩ := x
    have e : k = List.replicate h.length (-1) := e
    subst e
    have g : tget [(List.replicate h.length (-1), p)] (List.replicate h.length (-1)) = p := by unfold tget; rw [if_pos rfl]
    rw [g] at val
    have q : p = Z h es := canon_uniq (can _ List.mem_cons_self) (Z_canon h es) val
    rw [q]
  | x :: y :: r, k0, nd, _, _, _ =>
    have e1 := k0 x List.mem_cons_self
    have e2 := k0 y (List.mem_cons_of_mem _ List.mem_cons_self)
    rw [List.map_cons, List.nodup_cons] at nd
    exact absurd (by rw [e1, ← e2]; exact List.mem_map_of_mem List.mem_cons_self) nd.1
end SF

set_option maxRecDepth 100000
/-! # Loops: the tables over masks; the sum with 1 for y -/
namespace SF
/-- the product of the signs of the vertices in a mask -/
def chi (n : Nat) (m : Nat) (s : List Int) : Int := match n with
  | 0 => 1
  | k + 1 => chi k m s * if m.testBit k = true then 1 - 2 * at0 s k else 1
theorem sq1 {b : Int} (h : b = 0 ∨ b = 1) : (1 - 2 * b) * (1 - 2 * b) = 1 := by rcases h with e | e <;> subst e <;> rfl
theorem chi_xor {N : Nat} {s : List Int} (hs : IsSt N s) (a b : Nat) : ∀ n, chi n (a ^^^ b) s = chi n a s * chi n b s
  | 0 => rfl
  | n + 1 => by
    have q := sq1 (hs.at n)
    unfold chi
    rw [chi_xor hs a b n, Nat.testBit_xor]
    generalize 1 - 2 * at0 s n = z at q
    generalize chi n a s = x
    generalize chi n b s = y
    cases a.testBit n <;> cases b.testBit n <;> simp
    · grind
    · grind
    · grind
theorem chi_bit (u : Nat) (s : List Int) : ∀ n, chi n (1 <<< u) s = if u < n then 1 - 2 * at0 s u else 1
  | 0 => rfl
  | n + 1 => by
    unfold chi
    rw [chi_bit u s n]
    have : (1 <<< u).testBit n = decide (u = n) := by
      rw [Nat.one_shiftLeft, Nat.testBit_two_pow]
    rw [this]
    by_cases c : u = n
    · subst c; simp
    · by_cases d : u < n
      · have d2 : u < n + 1 := by omega
        simp [c, d, d2]
      · have d2 : ¬ u < n + 1 := by omega
        simp [c, d, d2]
def endsM (u v : Nat) : Nat := (1 <<< u) ^^^ (1 <<< v)
theorem chi_ends {N n u v : Nat} {s : List Int} (hs : IsSt N s) (hu : u < n) (hv : v < n) (m : Nat) : chi n (m ^^^ endsM u v) s = chi n m s * ((1 - 2 * at0 s u) * (1 - 2 * at0 s v)) := by
  unfold endsM
  rw [chi_xor hs, chi_xor hs, chi_bit, chi_bit, if_pos hu, if_pos hv]
theorem chi_flip {N : Nat} {s : List Int} (hs : IsSt N s) {v : Nat} (hv : v < N) (m : Nat) (hb : m.testBit v = true) : ∀ n, n ≤ N → chi n m (flip (fun u => decide (u = v)) s) = if v < n then - chi n m s else chi n m s
  | 0, _ => rfl
  | n + 1, h => by
    unfold chi
    rw [chi_flip hs hv m hb n (by omega), flip_at (by rw [hs.len]; omega)]
    by_cases c : n = v
    · subst c
      rw [if_neg (Nat.lt_irrefl _), if_pos (Nat.lt_succ_self _), if_pos hb, if_pos hb]
      simp only [decide_true, if_true]
      grind
    · by_cases d : v < n
      · have d2 : v < n + 1 := by omega
        simp only [c, d, d2, if_true, decide_false]
        grind
      · have d2 : ¬ v < n + 1 := by omega
        simp [c, d, d2]
theorem chi_zero (s : List Int) : ∀ n, chi n 0 s = 1
  | 0 => rfl
  | n + 1 => by
    unfold chi
    rw [chi_zero s n]; simp
theorem sm_neg {α : Type} (l : List α) (F : α → Int) : sm l (fun a => - F a) = - sm l F := by
  induction l with
  | nil => rfl
  | cons t r ih => simp only [sm_cons, ih]; omega
theorem chi_sum {n m : Nat} (hm : m < 2 ^ n) : sm (states n) (chi n m) = if m = 0 then 2 ^ n else 0 := by
  by_cases c : m = 0
  · subst c
    rw [if_pos rfl, ← sm_one n]
    exact sm_congr _ fun s _ => chi_zero s n
  · rw [if_neg c]
    obtain ⟨v, hb⟩ := Nat.exists_testBit_of_ne_zero c
    have hv : v < n := by
      refine Nat.lt_of_not_le fun h => ?_
      have : m.testBit v = false := Nat.testBit_lt_two_pow (Nat.lt_of_lt_of_le hm (Nat.pow_le_pow_right (by decide) h))
      rw [hb] at this; cases this
    have h1 := sm_flip (fun u => decide (u = v)) n (chi n m)
    have h2 : sm (states n) (fun s => chi n m (flip (fun u => decide (u = v)) s)) = - sm (states n) (chi n m) := by
      rw [← sm_neg]
      refine sm_congr _ fun s hs => ?_
      rw [chi_flip (states_is hs) hv m hb n (Nat.le_refl _), if_pos hv]
    omega
def cst0 (es : List Edge) (s : List Int) : Int := sm es (ecost s)
/-- the sum with 1 for y, of spins without field -/
def F0 (n : Nat) (es : List Edge) : Poly := cf ((states n).map fun s => ((cst0 es s, 0), 1))
theorem F0_ev (n : Nat) (es : List Edge) (f : Ex → Int) : ev (F0 n es) f = sm (states n) fun s => f (cst0 es s, 0) := by
  unfold F0; rw [cf_ev]; exact ev_map_one _ f _
theorem F0_canon (n : Nat) (es : List Edge) : Canon (F0 n es) := cf_canon _
structure LInv (n : Nat) (es : List Edge) (k : Nat) (t : List (Nat × Poly)) : Prop where
  key : ∀ x ∈ t, x.1 < 2 ^ n
  nd : (t.map (·.1)).Nodup
  can : ∀ x ∈ t, Canon x.2
  val : ∀ s ∈ states n, ∀ f : Ex → Int, tev t (fun m e => chi n m s * f e) = 2 ^ k * f (cst0 (es.take k) s, 0)
  sz : tsz t (fun _ => 1) ≤ 4 ^ k
structure LPart (n : Nat) (e0 : Edge) (t later : List (Nat × Poly)) : Prop where
  key : ∀ x ∈ later, x.1 < 2 ^ n
  nd : (later.map (·.1)).Nodup
  can : ∀ x ∈ later, Canon x.2
  val : ∀ s ∈ states n, ∀ f : Ex → Int, tev later (fun m e => chi n m s * f e) = tev t fun m e => chi n m s * (2 * f (addE e (ecost s e0, 0)))
  sz : tsz later (fun _ => 1) ≤ 4 * tsz t fun _ => 1
def inP (j : Int) : Poly := cf [((0, 0), 1), ((j, 0), -1)]
def outP (j : Int) : Poly := cf [((0, 0), 1), ((j, 0), 1)]
def lrow (e0 : Edge) (later : List (Nat × Poly)) (x : Nat × Poly) : List (Nat × Poly) :=
  tadd (tadd later x.1 (times x.2 (outP e0.2.2))) (x.1 ^^^ endsM e0.1 e0.2.1) (times x.2 (inP e0.2.2))
theorem LPart.start (n : Nat) (e0 : Edge) : LPart n e0 [] [] :=
  ⟨fun _ h => absurd h (by simp), by simp, fun _ h => absurd h (by simp), fun _ _ _ => rfl, by simp [tsz]⟩
theorem ends_lt {n u v : Nat} (hu : u < n) (hv : v < n) : endsM u v < 2 ^ n := by
  unfold endsM
  rw [Nat.one_shiftLeft, Nat.one_shiftLeft]
  exact Nat.xor_lt_two_pow (Nat.pow_lt_pow_right (by decide) hu) (Nat.pow_lt_pow_right (by decide) hv)
theorem LPart.step {n : Nat} {e0 : Edge} {t later : List (Nat × Poly)} {x : Nat × Poly} (hu : e0.1 < n) (hv : e0.2.1 < n) (hx : x.1 < 2 ^ n) (P : LPart n e0 t later) : LPart n e0 (t ++ [x]) (lrow e0 later x) where
  key := fun y hy => by
    rcases tadd_mem hy with q | q
    · rw [q.1]; exact Nat.xor_lt_two_pow hx (ends_lt hu hv)
    · rcases tadd_mem q with q | q
      · rw [q.1]; exact hx
      · exact P.key y q
  nd := tput_nd (tput_nd P.nd)
  can := fun y hy => by
    rcases tadd_mem hy with q | q
    · exact q.2
    · rcases tadd_mem q with q | q
      · exact q.2
      · exact P.can y q
  val := fun s hs f => by
    have hI := states_is hs
    unfold lrow outP inP
    rw [tev_add, tev_add, P.val s hs f, tev_snoc, times_bi, times_bi, chi_ends hI hu hv]
    have e1 : ∀ (c : Int) (g : Ex → Int), (ev x.2 fun e => c * g e) = c * ev x.2 g := fun c g => ev_smul x.2 c g
    simp only [addE_zero]
    rw [e1, e1, e1, e1]
    have b1 := hI.at e0.1
    have b2 := hI.at e0.2.1
    have e2 : (ev x.2 fun e => chi n x.1 s * (2 * f (addE e (ecost s e0, 0)))) = chi n x.1 s * (2 * ev x.2 fun e => f (addE e (ecost s e0, 0))) := by
      rw [← e1 2, ← e1]
    rw [e2]
    by_cases c : at0 s e0.1 = at0 s e0.2.1
    · have e3 : ecost s e0 = 0 := if_pos c
      have e4 : (1 - 2 * at0 s e0.1) * (1 - 2 * at0 s e0.2.1) = 1 := by rw [c]; exact sq1 b2
      have e5 : (ev x.2 fun e => f (addE e (ecost s e0, 0))) = ev x.2 f := ev_congr _ fun e => by rw [e3, addE_zero]
      rw [e4, e5]; grind
    · have e3 : ecost s e0 = e0.2.2 := if_neg c
      have e4 : (1 - 2 * at0 s e0.1) * (1 - 2 * at0 s e0.2.1) = -1 := by
        rcases b1 with b1 | b1 <;> rcases b2 with b2 | b2 <;> rw [b1, b2] at c ⊢ <;> first | exact absurd rfl c | rfl
      rw [e4, e3]; grind
  sz := by
    unfold lrow
    have h1 := tsz_add (fun _ => 1) (x.1 ^^^ endsM e0.1 e0.2.1) (times x.2 (inP e0.2.2)) (tadd later x.1 (times x.2 (outP e0.2.2)))
    have h2 := tsz_add (fun _ => 1) x.1 (times x.2 (outP e0.2.2)) later
    have h3 : nrm (times x.2 (inP e0.2.2)) ≤ nrm x.2 * 2 := Nat.le_trans (times_nrm _ _) (Nat.mul_le_mul_left _ (bi_nrm _ _ _ _))
    have h4 : nrm (times x.2 (outP e0.2.2)) ≤ nrm x.2 * 2 := Nat.le_trans (times_nrm _ _) (Nat.mul_le_mul_left _ (bi_nrm _ _ _ _))
    have h5 := P.sz
    rw [tsz_snoc]; omega
theorem tev_smul {κ : Type} (c : Int) (W : κ → Ex → Int) : ∀ t : List (κ × Poly), tev t (fun m e => c * W m e) = c * tev t W
  | [] => by simp [tev]
  | x :: r => by simp only [tev, tev_smul c W r, ev_smul]; grind
theorem LInv.next {n k : Nat} {es : List Edge} {e0 : Edge} {t later : List (Nat × Poly)} (T : LInv n es k t) (he : es[k]? = some e0) (P : LPart n e0 t later) : LInv n es (k + 1) later :=
  ⟨P.key, P.nd, P.can, fun s hs f => by
    rw [P.val s hs f]
    have := T.val s hs fun e => 2 * f (addE e (ecost s e0, 0))
    rw [this]
    have e1 : cst0 (es.take (k + 1)) s = cst0 (es.take k) s + ecost s e0 := by
      unfold cst0
      rw [List.take_add_one, he, sm_append]
      simp
    have e2 : addE (cst0 (es.take k) s, 0) (ecost s e0, 0) = (cst0 (es.take (k + 1)) s, 0) := by rw [e1]; rfl
    rw [e2, Int.pow_succ]; grind, by
    have := P.sz
    have := T.sz
    rw [Nat.pow_succ]; omega⟩
theorem LInv.start (n : Nat) (es : List Edge) : LInv n es 0 [(0, [((0, 0), 1)])] where
  key := fun x hx => by
    have e : x = (0, [((0, 0), 1)]) := by simpa using hx
    subst e; exact Nat.pow_pos (by decide)
  nd := by simp
  can := fun x hx => by
    have e : x = (0, [((0, 0), 1)]) := by simpa using hx
    subst e; exact one_canon
  val := fun s hs f => by
    show ev [((0, 0), 1)] (fun e => chi n 0 s * f e) + 0 = _
    simp only [ev_cons, ev_nil, chi_zero]
    unfold cst0
    simp
  sz := by simp [tsz]
theorem tev_sm {κ α : Type} (l : List α) (F : α → κ → Ex → Int) : ∀ t : List (κ × Poly), tev t (fun m e => sm l fun a => F a m e) = sm l fun a => tev t (F a)
  | [] => by
    simp only [tev]
    rw [sm_zero]
  | x :: r => by simp only [tev, tev_sm l F r]; rw [ev_sm, sm_add]
/-- behind all edges -/
theorem LInv.end_ {n : Nat} {es : List Edge} {t : List (Nat × Poly)} (T : LInv n es es.length t) (f : Ex → Int) : 2 ^ n * ev (tget t 0) f = 2 ^ es.length * ev (F0 n es) f := by
  have h1 : tev t (fun m e => sm (states n) fun s => chi n m s * f e) = 2 ^ es.length * ev (F0 n es) f := by
    rw [tev_sm, F0_ev, ← sm_smul]
    refine sm_congr _ fun s hs => ?_
    rw [T.val s hs f, List.take_length]
  have h2 : tev t (fun m e => sm (states n) fun s => chi n m s * f e) = tev t fun m e => (if m = 0 then 2 ^ n else 0) * f e := by
    refine tev_congr t fun x hx e => ?_
    rw [← chi_sum (T.key x hx)]
    have : ∀ s, chi n x.1 s * f e = f e * chi n x.1 s := fun s => Int.mul_comm _ _
    simp only [this]
    rw [sm_smul, Int.mul_comm]
  rw [← h1, h2, tev_one (k := 0) T.nd fun x _ ne e => by rw [if_neg ne]; simp]
  rw [if_pos rfl, ev_smul]
theorem LInv.len {n : Nat} {es : List Edge} {k : Nat} {t : List (Nat × Poly)} (T : LInv n es k t) : nrm (tget t 0) ≤ 4 ^ k := Nat.le_trans (tget_sz (fun _ => 1) 0 (Nat.le_refl _) t) T.sz
def scale (c : Int) (p : Poly) : Poly := p.map fun t => (t.1, t.2 * c)
theorem scale_ev (c : Int) (f : Ex → Int) : ∀ p, ev (scale c p) f = c * ev p f
  | [] => by simp [scale]
  | t :: r => by
    show ev ((t.1, t.2 * c) :: scale c r) f = _
    simp only [ev_cons, scale_ev c f r]; grind
theorem scale_canon {c : Int} (hc : c ≠ 0) {p : Poly} (h : Canon p) : Canon (scale c p) := by
  refine ⟨?_, fun x hx => ?_⟩
  · unfold scale
    rw [List.pairwise_map]
    exact h.asc
  · obtain ⟨y, hy, rfl⟩ := List.mem_map.mp hx
    exact Int.mul_ne_zero (h.nz y hy) hc
theorem loops_whole {n : Nat} {es : List Edge} {t : List (Nat × Poly)} (T : LInv n es es.length t) : times (tget t 0) [((0, 0), 2 ^ n)] = scale (2 ^ es.length) (F0 n es) := by
  refine canon_uniq (times_canon _ _) (scale_canon (Int.ne_of_gt (Int.pow_pos (by decide))) (F0_canon n es)) fun f => ?_
  rw [times_mono, scale_ev, ← T.end_]
  simp only [addE_zero]
/-- the flat of the partition polynomial -/
def flatP (p : Poly) : Poly := cf (p.map fun t => ((t.1.1, 0), t.2))
theorem ev_flat (f : Ex → Int) : ∀ p : Poly, ev (p.map fun t => ((t.1.1, (0 : Int)), t.2)) f = ev p fun e => f (e.1, 0)
  | [] => rfl
  | t :: r => by simp only [List.map_cons, ev_cons, ev_flat f r]
theorem fld_zero {h : List Int} (hz : ∀ x ∈ h, x = 0) (v : Nat) : fld h v = 0 := by
  unfold fld
  by_cases e : v < h.length
  · rw [List.getD_eq_getElem?_getD, List.getElem?_eq_getElem e]
    exact hz _ (List.getElem_mem e)
  · rw [List.getD_eq_getElem?_getD, List.getElem?_eq_none (by omega)]; rfl
theorem cst_flat {h : List Int} (hz : ∀ x ∈ h, x = 0) (es : List Edge) (s : List Int) : cst h es s = cst0 es s := by
  unfold cst cst0
  rw [vs_congr (G := fun _ => 0) fun v _ => by rw [fld_zero hz]; simp, vs_zero]; omega
theorem flat_Z {h : List Int} (hz : ∀ x ∈ h, x = 0) (es : List Edge) : flatP (Z h es) = F0 h.length es := by
  refine canon_uniq (cf_canon _) (F0_canon _ _) fun f => ?_
  unfold flatP
  rw [cf_ev, ev_flat, Z_ev, F0_ev]
  exact sm_congr _ fun s _ => by rw [cst_flat hz]
theorem sm_bd {α : Type} {F : α → Int} {c : Int} : ∀ {l : List α}, (∀ a ∈ l, -c ≤ F a ∧ F a ≤ c) → -(c * l.length) ≤ sm l F ∧ sm l F ≤ c * l.length
  | [], _ => by simp
  | a :: r, h => by
    have h1 := h a List.mem_cons_self
    have h2 := sm_bd (F := F) (c := c) (l := r) fun x hx => h x (List.mem_cons_of_mem _ hx)
    rw [sm_cons, List.length_cons]
    have : c * ((r.length + 1 : Nat) : Int) = c * r.length + c := by rw [Int.natCast_add]; grind
    omega
theorem Z_exp {h : List Int} {es : List Edge} (w : Wf h es) (hz : ∀ x ∈ h, x = 0) {t : Ex × Int} (ht : t ∈ Z h es) : -30 ≤ t.1.1 ∧ t.1.1 ≤ 30 := by
  have hc := Z_canon h es
  have e : ∀ {p : Poly}, Canon p → t ∈ p → ev p (ind t.1) = t.2 := by
    intro p
    induction p with
    | nil => intro _ h; cases h
    | cons x r ih =>
      intro hp hm
      rcases List.mem_cons.mp hm with q | q
      · subst q; exact hp.ev_head
      · rw [ev_cons, ih hp.tail q]
        have : x.1 ≠ t.1 := lt2_ne (hp.head t q)
        simp [ind, this]
  have e1 := e hc ht
  rw [Z_ev] at e1
  by_cases c : ∀ s ∈ states h.length, (cst h es s, ups s) ≠ t.1
  · have z : sm (states h.length) (fun s => ind t.1 (cst h es s, ups s)) = 0 := (sm_congr (G := fun _ => 0) (states h.length) fun s hs => if_neg (c s hs)).trans (sm_zero _)
    rw [z] at e1
    exact absurd e1.symm (hc.nz t ht)
  · have ⟨s, c⟩ := Classical.not_forall.mp c
    have ⟨hs, c⟩ := Classical.not_imp.mp c
    have c := Classical.not_not.mp c
    rw [← c]
    show -30 ≤ cst h es s ∧ cst h es s ≤ 30
    rw [cst_flat hz]
    have b := sm_bd (F := ecost s) (c := 3) (l := es) fun x hx => by
      have := w.cj x hx
      unfold ecost
      split <;> omega
    have := w.few
    unfold cst0
    omega
theorem nodup_bd (lo : Int) : ∀ (n : Nat) (l : List Int), l.Nodup → (∀ x ∈ l, lo ≤ x ∧ x < lo + (n : Int)) → l.length ≤ n
  | 0, [], _, _ => Nat.le_refl _
  | 0, x :: r, _, h => by
    have := h x List.mem_cons_self
    omega
  | n + 1, l, nd, h => by
    have ih := nodup_bd lo n (l.erase (lo + (n : Int))) (nd.erase _) fun x hx => by
      have h1 := h x (List.mem_of_mem_erase hx)
      have h2 : x ≠ lo + (n : Int) := fun e => by
        rw [e] at hx
        exact absurd hx (List.Nodup.not_mem_erase nd)
      omega
    rw [List.length_erase] at ih
    split at ih <;> omega
end SF

set_option maxRecDepth 100000
set_option maxHeartbeats 4000000
/-! # Dicts from pairs of ints to ints: their keys are tuples that may be the module's own -/
namespace SFW
open PySem PySem.Spec PyProof.Rows L2
open SF (Poly)
/-- the exponents as a key -/
abbrev kE (e : Int × Int) : List L2.Key := [Sum.inl e.1, Sum.inl e.2]
theorem kE_inj {a b : Int × Int} (h : kE a = kE b) : a = b := by
  obtain ⟨a1, a2⟩ := a
  obtain ⟨b1, b2⟩ := b
  simp only [kE, List.cons.injEq, Sum.inl.injEq, and_true] at h
  rw [h.1, h.2]
/-- an entry: the key's tuple, the exponents, the coefficient -/
abbrev PE3 := Addr × (Int × Int) × Int
abbrev PT : List PE3 → List (List L2.Key × Addr × Value) → Prop := Paired fun p q => kE p.2.1 = q.1 ∧ p.1 = q.2.1 ∧ RelV (.int p.2.2) q.2.2
def PDat (P : Program) (w : World) (a : Addr) (t : List PE3) (h : Heap) : Prop :=
  t.length ≤ sizeLine ∧ (a == sysModules) = false ∧ ∃ xs, PT t xs ∧ ∃ o es ep, h.get? a = some o ∧ o.ExactDict ∧ o.data = .dict es ep ∧ es.toList = xs.map (entryOfKey (tupleKind (mixKind P w))) ∧ (xs.map (·.1)).Nodup
def PDo (P : Program) (w : World) (a : Addr) (t : List PE3) : HO := .ext (PDat P w a t)
/-- the keys' tuples are to be read -/
def PKs (K : PySem.W.Frag) (H : Hp) (t : List PE3) : Prop := ∀ p ∈ t, SqT K H p.1 [.int p.2.1.1, .int p.2.1.2]
def lookE (t : List PE3) (e : Int × Int) : Option Int := match t with
  | [] => none
  | p :: r => if p.2.1 = e then some p.2.2 else lookE r e
def putE (t : List PE3) (b : Addr) (e : Int × Int) (c : Int) : List PE3 := if (lookE t e).isSome then t.map (fun p => if p.2.1 = e then (p.1, p.2.1, c) else p) else t ++ [(b, e, c)]
theorem PDat.ok {P : Program} {w : World} {H : Hp} {h : Heap} {a : Addr} {t : List PE3} (x : PDat P w a t h) : ObjOk P w H h a (PDo P w a t) := by
  refine ⟨x, ?_, fun h1 h2 y k => ?_⟩
  · obtain ⟨_, _, _, _, o, _, _, e, _⟩ := x
    exact ⟨o, e⟩
  · obtain ⟨z, l, xs, r, o, es, ep, e, c⟩ := y
    exact ⟨z, l, xs, r, o, es, ep, k o e, c⟩
theorem PT.get {t : List PE3} {xs : List (List L2.Key × Addr × Value)} (r : PT t xs) (e : Int × Int) : RelO ((lookE t e).map V.int) ((atKey xs (kE e)).map (·.2)) := by
  induction r with
  | nil => exact True.intro
  | @cons p q ps qs h t ih =>
    obtain ⟨h1, h2, h3⟩ := h
    unfold lookE
    by_cases c : p.2.1 = e
    · have c' : q.1 = kE e := by rw [← h1, c]
      have b : atKey (q :: qs) (kE e) = some q.2 := by simp [atKey, List.find?_cons, c']
      rw [if_pos c, b]; exact h3
    · have c' : ¬ q.1 = kE e := fun z => c (kE_inj (h1.trans z))
      have b : atKey (q :: qs) (kE e) = atKey qs (kE e) := by simp [atKey, List.find?_cons, c']
      rw [if_neg c, b]; exact ih
theorem PT.put {t : List PE3} {xs : List (List L2.Key × Addr × Value)} (r : PT t xs) (b : Addr) (e : Int × Int) {c : Int} {u : Value} (ru : RelV (.int c) u) : PT (putE t b e c) (storedH xs (kE e) b u) := by
  have q : (lookE t e).isSome = (atKey xs (kE e)).isSome := by
    have := (r.get e).isSome_eq
    rw [Option.isSome_map, Option.isSome_map] at this
    exact this
  unfold putE storedH
  rw [q]
  by_cases d : (atKey xs (kE e)).isSome = true
  · rw [if_pos d, if_pos d]
    clear d q
    induction r with
    | nil => exact .nil
    | @cons p q ps qs h t ih =>
      rw [List.map_cons, List.map_cons]
      refine .cons ?_ ih
      obtain ⟨h1, h2, h3⟩ := h
      unfold putAt
      by_cases z : p.2.1 = e
      · rw [if_pos z, if_pos (by rw [← h1, z])]; exact ⟨h1, h2, ru⟩
      · rw [if_neg z, if_neg fun y => z (kE_inj (h1.trans y))]; exact ⟨h1, h2, h3⟩
  · rw [if_neg d, if_neg d]; exact Paired.snoc r ⟨rfl, rfl, ru⟩
theorem putE_len (t : List PE3) (b : Addr) (e : Int × Int) (c : Int) : (putE t b e c).length ≤ t.length + 1 := by
  unfold putE; split
  · simp
  · simp
theorem PKs.put {K : PySem.W.Frag} {H : Hp} {t : List PE3} (h : PKs K H t) {b : Addr} {e : Int × Int} (hb : SqT K H b [.int e.1, .int e.2]) (c : Int) : PKs K H (putE t b e c) := fun p hp => by
  unfold putE at hp
  split at hp
  · obtain ⟨q, hq, rfl⟩ := List.mem_map.mp hp
    split
    · exact h q hq
    · exact h q hq
  · rcases List.mem_append.mp hp with z | z
    · exact h p z
    · have : p = (b, e, c) := by simpa using z
      subst this; exact hb
/-- what a dict says: its polynomial -/
abbrev pol (t : List PE3) : Poly := t.map (·.2)
theorem lookE_none : ∀ {t : List PE3} {e : Int × Int}, lookE t e = none ↔ ∀ p ∈ t, p.2.1 ≠ e
  | [], e => by simp [lookE]
  | p :: r, e => by
    unfold lookE
    by_cases c : p.2.1 = e
    · rw [if_pos c]; simp [c]
    · rw [if_neg c, lookE_none]; simp [c]
theorem putE_keys (t : List PE3) (b : Addr) (e : Int × Int) (c : Int) (nd : (t.map (·.2.1)).Nodup) : ((putE t b e c).map (·.2.1)).Nodup := by
  unfold putE; split
  · rw [List.map_map]
    have : (t.map ((fun x : PE3 => x.2.1) ∘ fun p => if p.2.1 = e then (p.1, p.2.1, c) else p)) = t.map (·.2.1) := List.map_congr_left fun p _ => by
      show (if p.2.1 = e then (p.1, p.2.1, c) else p).2.1 = _
      split <;> rfl
    rw [this]; exact nd
  · rename_i h
    have h : lookE t e = none := by cases q : lookE t e with
      | none => rfl
      | some _ => rw [q] at h; simp at h
    rw [List.map_append, List.nodup_append]
    refine ⟨nd, by simp, fun a ha b hb => ?_⟩
    have : b = e := by simpa using hb
    subst this
    obtain ⟨p, hp, rfl⟩ := List.mem_map.mp ha
    exact lookE_none.mp h p hp
/-- found[e] = found.get(e, 0) + c -/
theorem putE_ev (f : Int × Int → Int) : ∀ (t : List PE3) (b : Addr) (e : Int × Int) (c : Int), (t.map (·.2.1)).Nodup → SF.ev (pol (putE t b e ((lookE t e).getD 0 + c))) f = SF.ev (pol t) f + c * f e
  | [], b, e, c, _ => by simp [putE, lookE, pol]
  | p :: r, b, e, c, nd => by
    rw [List.map_cons, List.nodup_cons] at nd
    by_cases d : p.2.1 = e
    · have h1 : lookE (p :: r) e = some p.2.2 := by unfold lookE; rw [if_pos d]
      have h2 : ∀ x ∈ r, x.2.1 ≠ e := fun x hx z => nd.1 (by rw [d, ← z]; exact List.mem_map_of_mem hx)
      unfold putE
      rw [h1]
      simp only [Option.isSome_some, if_true, Option.getD_some, List.map_cons, pol, SF.ev_cons, if_pos d]
      have h3 : (r.map fun p => if p.2.1 = e then (p.1, p.2.1, p.2.2 + c) else p) = r := by
        conv => rhs; rw [← List.map_id r]
        exact List.map_congr_left fun x hx => if_neg (h2 x hx)
      have h4 : (r.map fun q : PE3 => if q.2.1 = e then (q.1, q.2.1, p.2.2 + c) else q) = r := by
        conv => rhs; rw [← List.map_id r]
        exact List.map_congr_left fun x hx => if_neg (h2 x hx)
      rw [h4, d]; grind
    · have h1 : lookE (p :: r) e = lookE r e := by
        show (if p.2.1 = e then some p.2.2 else lookE r e) = _
        rw [if_neg d]
      have ih := putE_ev f r b e c nd.2
      have h5 : putE (p :: r) b e ((lookE r e).getD 0 + c) = p :: putE r b e ((lookE r e).getD 0 + c) := by
        unfold putE
        rw [h1]
        split
        · rw [List.map_cons, if_neg d]
        · rfl
      rw [h1, h5]
      simp only [pol, List.map_cons, SF.ev_cons] at ih ⊢
      rw [ih]; omega
section
variable {X : Cx} {pins : List (Addr × Obj)} {σ : L2.St} {H : Hp} {s : Shared}
theorem key_ofS {b : Addr} {e : Int × Int} (I : Inv X pins σ H s) (h : SqT X.K H b [.int e.1, .int e.2]) : (tupleKind (mixKind X.prog X.w)).is s.heap (kE e) b := by
  obtain ⟨its, r, ⟨o, h1, h2, n, h3⟩, _⟩ := I.tuple h
  exact ⟨o, its.toArray, n, h1, h2, h3, by simpa using items_are (ks := kE e) r⟩
theorem pd_of {a : Addr} {t : List PE3} (I : Inv X pins σ H s) (e : H a = some (PDo X.prog X.w a t)) (hk : PKs X.K H t) : t.length ≤ sizeLine ∧ (a == sysModules) = false ∧ ∃ xs, PT t xs ∧ s.heap.DictOfH (tupleKind (mixKind X.prog X.w)) a xs := by
  obtain ⟨x, _, _⟩ := (show ObjOk X.prog X.w H s.heap a (PDo X.prog X.w a t) from I.hok a _ e)
  obtain ⟨z, l, xs, r, o, es, ep, h1, h2, h3, h4, h5⟩ := x
  refine ⟨z, l, xs, r, o, es, ep, h1, h2, h3, h4, fun q hq => ?_, h5⟩
  have all : ∀ {t : List PE3} {xs : List (List L2.Key × Addr × Value)}, PT t xs → PKs X.K H t → ∀ q ∈ xs, (tupleKind (mixKind X.prog X.w)).is s.heap q.1 q.2.1 := by
    intro t xs r
    induction r with
    | nil => intro _ q hq; cases hq
    | @cons p q ps qs h t ih =>
      intro hk x hx
      rcases List.mem_cons.mp hx with z | z
      · subst z
        rw [← h.1, ← h.2.1]
        exact key_ofS I (hk p List.mem_cons_self)
      · exact ih (fun y hy => hk y (List.mem_cons_of_mem _ hy)) x z
  exact all r hk q hq
theorem pd_type {a : Addr} {t : List PE3} (I : Inv X pins σ H s) (e : H a = some (PDo X.prog X.w a t)) : s.TypeIs (.ref a) "dict" ∧ (∀ b, Value.ref a = .ref b → ∃ ob, s.heap.get? b = some ob ∧ ob.dict = none) ∧ (a == sysModules) = false := by
  obtain ⟨x, _, _⟩ := (show ObjOk X.prog X.w H s.heap a (PDo X.prog X.w a t) from I.hok a _ e)
  obtain ⟨z, l, xs, r, o, es, ep, h1, h2, h3, h4, h5⟩ := x
  refine ⟨⟨o, h1, h2.1⟩, fun b q => ?_, l⟩
  cases q
  exact ⟨o, h1, h2.2.1⟩
end
section
variable {X : Cx} {pos : Pos}
/-- {} -/
def tPNew (P : Program) (w : World) : TE := fun _ H Q => ∀ p, H p = none → Q (.ref p) (upd H p (PDo P w p []))
theorem pe_pnew : PE X (.Dict [] [] pos) (tPNew X.prog X.w) := ⟨fun pins s σ H Q I h =>
  wpAny_Dict_empty ⟨.ref s.heap.objs.size, _, I.laid (a := s.heap.objs.size) (o := PDo X.prog X.w s.heap.objs.size []) (t' := s.toks) (fun _ _ q => Heap.get?_push_of_some _ q) (Nat.le_refl _)
    (PDat.ok ⟨Nat.zero_le _, beq_eq_false_iff_ne.mpr (Ne.symm (Nat.ne_of_lt I.big)), [], .nil, _, #[], 0, Heap.get?_push_size _ rfl, ⟨rfl, rfl, rfl⟩, rfl, rfl, List.nodup_nil⟩), rfl, h _ (I.hok.fresh (Nat.le_refl _))⟩⟩
variable {o i e f value : Expr} {apos cpos pos' : Pos} {td ty tx tv : TE}
/-- d.get(y, z) -/
def tPGet2 (P : Program) (w : World) (K : PySem.W.Frag) (td ty tx : TE) : TE := fun σ H Q => td σ H fun x H1 => ∃ a t0, x = .ref a ∧ H1 a = some (PDo P w a t0) ∧ ty σ H1 fun y H2 => tx σ H2 fun z H3 => ∃ t b ex, H3 a = some (PDo P w a t) ∧ PKs K H3 t ∧ y = .ref b ∧ SqT K H3 b [.int ex.1, .int ex.2] ∧
  Q (((lookE t ex).map V.int).getD z) H3
theorem pe_pget2 (hu : X.A.units + 1 < cLine) (ho : PE X o td) (he : PE X e ty) (hf : PE X f tx) (m : M2 X o "get" apos e f cpos) : PE X (.Call (.Attribute o "get" apos) [e, f] [] cpos) (tPGet2 X.prog X.w X.K td ty tx) := by
  refine ⟨fun pins s σ H Q I h => ?_⟩
  refine wpAny_Call_method m.base m.few m.line PySem.F.plainAttrs_dict PySem.F.slot_dict_get PySem.F.type_dict_get (thn (ho.run pins s σ H _ I h) fun u s1 ⟨x, H1, I1, rx, a, t0, ex, d, q1⟩ => ?_)
  subst ex
  obtain rfl : u = Value.ref a := rx
  obtain ⟨t1, t2, _⟩ := pd_type I1 d
  refine ⟨t1, t2, ?_⟩
  rw [m.trees]
  refine Calls.callWith_builtin rfl (Calls.evalArgs_plain (Calls.spliced_cons (thn (he.run pins s1 σ H1 _ I1 q1) fun iv s2 ⟨y, H2, I2, ry, q2⟩ =>
    Calls.spliced_cons (thn (hf.run pins s2 σ H2 _ I2 q2) fun fv s3 ⟨z, H3, I3, rz, t, b, ex, g, gk, ey, eb, q3⟩ => Calls.spliced_nil ?_))))
  subst ey
  obtain rfl : iv = Value.ref b := ry
  obtain ⟨z, hd, xs, rel, dd⟩ := pd_of I3 g gk
  refine call_meetsIn PySem.F.slot_dict_get dd.typeIs PySem.F.entry_dict_get (PySem.F.args_dict_get_3 _ _ _) (meetsH_dict_get_default (tupleKind (mixKind X.prog X.w)) a b hd fv) ⟨tupleKind_room_in1 hu, kE ex, xs, key_ofS I3 eb, dd, ?_⟩
  exact ⟨_, H3, I3.tok _, (rel.get ex).getD rz, q3⟩
/-- d[y], there -/
def tPGet (P : Program) (w : World) (K : PySem.W.Frag) (td ty : TE) : TE := fun σ H Q => td σ H fun x H1 => ty σ H1 fun y H2 => ∃ a t b ex c, x = .ref a ∧ H2 a = some (PDo P w a t) ∧ PKs K H2 t ∧ y = .ref b ∧ SqT K H2 b [.int ex.1, .int ex.2] ∧ lookE t ex = some c ∧ Q (.int c) H2
theorem pe_pget (hu : X.A.units + 1 < cLine) (ho : PE X o td) (hi : PE X i ty) (hs : NoSl i) : PE X (.Subscript o i pos) (tPGet X.prog X.w X.K td ty) := by
  refine ⟨fun pins s σ H Q I h => ?_⟩
  refine subD_of PySem.F.slot_dict_getitem.lookup hs (thn (ho.run pins s σ H _ I h) fun u s1 ⟨x, H1, I1, rx, q1⟩ => thn (hi.run pins s1 σ H1 _ I1 q1) fun iv s2 ⟨y, H2, I2, ry, a, t, b, ex, c, ea, g, gk, ey, eb, l, q2⟩ => ?_)
  subst ea ey
  obtain rfl : u = Value.ref a := rx
  obtain rfl : iv = Value.ref b := ry
  obtain ⟨z, hd, xs, rel, dd⟩ := pd_of I2 g gk
  refine ⟨(pd_type I2 g).1, ?_⟩
  obtain ⟨w', hw, rw'⟩ := RelO.some_of (v := .int c) (o := (atKey xs (kE ex)).map (·.2)) (by have := rel.get ex; rw [l] at this; exact this)
  obtain ⟨p, hp, hp2⟩ := Option.map_eq_some_iff.mp hw
  refine wpAny_getItem_heap (tupleKind_room_in1 hu) (key_ofS I2 eb) dd hp ?_
  rw [hp2]
  exact ⟨.int c, H2, I2.tok _, rw', q2⟩
/-- d[y] = v -/
def sPPut (P : Program) (w : World) (K : PySem.W.Frag) (td ty tv : TE) : TS := fun D σ H => tv σ H fun v H1 => td σ H1 fun x H2 => ty σ H2 fun y H3 => ∃ a t b ex c, x = .ref a ∧ v = .int c ∧ H3 a = some (PDo P w a t) ∧ PKs K H3 t ∧ y = .ref b ∧ SqT K H3 b [.int ex.1, .int ex.2] ∧ t.length < sizeLine ∧
  D.nx σ (upd H3 a (PDo P w a (putE t b ex c)))
theorem ps_pput (hu : X.A.units + 1 < cLine) (ho : PE X o td) (hi : PE X i ty) (hv : PE X value tv) (hs : swapsWith value (some (.Subscript o i pos')) pos.line X.env = pure false) :
    PS X (.Assign [.Subscript o i pos'] value pos) (sPPut X.prog X.w X.K td ty tv) := by
  refine ⟨fun pins s σ H D I h => ?_⟩
  refine wpAny_Assign_Subscript (thn (hv.run pins s σ H _ I h) fun r s1 ⟨v, H1, I1, rv, q1⟩ => thn (ho.run pins s1 σ H1 _ I1 q1) fun u s2 ⟨x, H2, I2, rx, q2⟩ => thn (hi.run pins s2 σ H2 _ I2 q2) fun iv s3 ⟨y, H3, I3, ry, a, t, b, ex, c, ea, ev, g, gk, ey, eb, l, q3⟩ => ?_) hs
  subst ea ey ev
  obtain rfl : u = Value.ref a := rx
  obtain rfl : iv = Value.ref b := ry
  obtain ⟨z, hd, xs, rel, dd⟩ := pd_of I3 g gk
  have hz : xs.length ≤ sizeLine := by rw [← Paired.length rel]; exact z
  have hl : (putE t b ex c).length ≤ sizeLine := by have := putE_len t b ex c; omega
  refine wpAny_setItem_heap (hsz := hz) (tupleKind_room_in1 hu) (key_ofS I3 eb) dd fun h' dd' hsb => ?_
  obtain ⟨q, es, ep, hq, h2, h3, h4, _, h5⟩ := dd'
  exact ⟨σ, _, d_write I3 (by rw [g]; exact True.intro) hsb ⟨q, hq⟩ (PDat.ok ⟨hl, hd, _, rel.put b ex rv, q, es, ep, hq, h2, h3, h4, h5⟩), q3⟩
theorem pget {α β : Type} {F : α → β → Prop} {l₁ : List α} {l₂ : List β} (h : Paired F l₁ l₂) : ∀ {j : Nat} {x : β}, l₂[j]? = some x → ∃ y, l₁[j]? = some y ∧ F y x := by
  induction h with
  | nil => intro j x h; simp at h
  | cons a t ih =>
    intro j x h
    cases j with
    | zero =>
      have h : some _ = some x := h
      cases h
      exact ⟨_, rfl, a⟩
    | succ j => exact ih (by simpa using h)
/-- sorted(d): the keys' tuples, ascending -/
theorem perm_map_back {α β : Type} (f : α → β) : ∀ {l : List α} {m : List β}, m.Perm (l.map f) → ∃ l' : List α, l'.Perm l ∧ m = l'.map f := by
  intro l m h
  generalize e : l.map f = n at h
  induction h generalizing l with
  | nil =>
    have : l = [] := by simpa using e
    subst this
    exact ⟨[], List.Perm.refl _, rfl⟩
  | @cons x l1 l2 _ ih =>
    cases l with
    | nil => simp at e
    | cons a r =>
      rw [List.map_cons] at e
      injection e with e1 e2
      obtain ⟨l', p, q⟩ := ih e2
      exact ⟨a :: l', p.cons a, by rw [List.map_cons, e1, q]⟩
  | swap x y l1 =>
    match l, e with
    | a :: b :: r, e =>
      rw [List.map_cons, List.map_cons] at e
      injection e with e1 e2
      injection e2 with e2 e3
      exact ⟨b :: a :: r, List.Perm.swap a b r, by rw [List.map_cons, List.map_cons, e1, e2, e3]⟩
  | trans _ _ ih1 ih2 =>
    obtain ⟨l', p, q⟩ := ih2 e
    obtain ⟨l'', p', q'⟩ := ih1 q.symm
    exact ⟨l'', p'.trans p, q'⟩
def rPSorted (P : Program) (w : World) (K : PySem.W.Frag) : List V → Hp → VK → Prop := fun vs H Q => ∃ (a : Addr) (t : List PE3), vs = [V.ref a] ∧ H a = some (PDo P w a t) ∧ PKs K H t ∧ (t.map (·.2.1)).Nodup ∧
  ∀ (t' : List PE3) (p : Addr), t'.Perm t → t'.Pairwise (fun x y => SF.lt2 x.2.1 y.2.1) → H p = none → Q (.ref p) (upd H p (.lst (t'.map fun x => V.ref x.1)))
theorem cr_psorted (hc : X.calm = true) : CallR X (.builtin "sorted") (rPSorted X.prog X.w X.K) := by
  intro pins s σ H xs us Q I r h
  obtain ⟨a, t, rfl, ha, hk, nd, q⟩ := h
  obtain ⟨u, rfl, rx⟩ := vals1 r
  obtain rfl : u = Value.ref a := rx
  obtain ⟨x, _, _⟩ := (show ObjOk X.prog X.w H s.heap a (PDo X.prog X.w a t) from I.hok a _ ha)
  obtain ⟨z, lo, ks, rel, o, es, ep, ho, hx, hdt, he, hnd⟩ := x
  have l1 : es.size = ks.length := size_of_entries he
  have l2 : t.length = ks.length := Paired.length rel
  have hn : es.size ≤ sizeLine := by omega
  refine Calls.call_function_entry PyProof.Rows.kind_sorted PyProof.Rows.plain_sorted PyProof.Rows.entry_sorted (PyProof.Rows.args_sorted1 _) ?_
  unfold Builtin.«sorted»
  refine wpAny_bind (m := checkCount "sorted" 1 1 _) (wpAny_pure ?_)
  refine wpAny_bind (PySem.W.kdu_collect (A := X.A.in1) (kdl_raw lo hx hdt) (I.ok.hd hc) ho hn fun h' tk acc kp it => ?_)
  have I1 : Inv X pins σ H { s with heap := h', toks := tk } := I.kept kp
  have ea : acc.toList = t.map fun p => Value.ref p.1 := by
    have hl : acc.toList.length = ks.length := by rw [Array.length_toList, it.1]; exact l1
    apply List.ext_getElem?
    intro j
    rw [List.getElem?_map]
    cases hj : acc.toList[j]? with
    | none =>
      have h1 := List.getElem?_eq_none_iff.mp hj
      rw [List.getElem?_eq_none (by omega)]
      all_goals rfl
    | some v =>
      obtain ⟨en, hen, hv⟩ := it.2 j v (by rw [← Array.getElem?_toList]; exact hj)
      have qe := entry_at he j
      rw [hen] at qe
      cases hb : ks[j]? with
      | none =>
        rw [hb] at qe
        exact nomatch (show some en = none from qe)
      | some b =>
        rw [hb] at qe
        have e2 : en = entryOfKey (tupleKind (mixKind X.prog X.w)) b := Option.some.inj qe
        obtain ⟨p, hp, hpq⟩ := pget rel hb
        rw [hp, hv, e2]
        show some (Value.ref b.2.1) = some (Value.ref p.1)
        rw [hpq.2.1]
  have hlen : acc.toList.length ≤ sizeLine := by rw [ea, List.length_map]; exact z
  refine wpAny_bind (wpAny_newList ?_ hlen)
  have hoL : (h'.push (seqObj "list" acc.toList.toArray 0)).get? h'.objs.size = some (seqObj "list" acc.toList.toArray 0) := Heap.get?_push_size _ rfl
  show wpAny _ _ _ _ _ { s with heap := h'.push (seqObj "list" acc.toList.toArray 0), toks := tk }
  -- the exponents of a key's tuple
  let k : Value → Int × Int := fun v => match v with
    | .ref b => ((t.find? fun p => decide (p.1 = b)).map (·.2.1)).getD (0, 0)
    | _ => (0, 0)
  have hkk : ∀ p ∈ t, k (.ref p.1) = p.2.1 := fun p hp => by
    show ((t.find? fun q => decide (q.1 = p.1)).map (·.2.1)).getD (0, 0) = p.2.1
    cases hf : t.find? fun q => decide (q.1 = p.1) with
    | none =>
      have := List.find?_eq_none.mp hf p hp
      simp at this
    | some q =>
      have hq := List.mem_of_find?_eq_some hf
      have he : q.1 = p.1 := by simpa using List.find?_some hf
      have h1 := hk q hq
      rw [he] at h1
      have h2 := I.tuple_inj h1 (hk p hp)
      simp only [List.cons.injEq, V.int.injEq, and_true] at h2
      exact Prod.ext h2.1 h2.2
  have hP : ∀ v ∈ acc.toList, Srt.IsPair h' v (k v).1 (k v).2 := fun v hv => by
    rw [ea] at hv
    obtain ⟨p, hp, rfl⟩ := List.mem_map.mp hv
    rw [hkk p hp]
    obtain ⟨its, r2, ⟨ob, ho2, hc2, n, hd2⟩, _⟩ := I1.tuple (hk p hp)
    obtain ⟨u1, u2, rfl, ⟨t1, rfl⟩, ⟨t2, rfl⟩⟩ := vals2 r2
    exact ⟨p.1, ob, t1, t2, n, rfl, ho2, hc2, hd2⟩
  refine wpAny_bind (wpAny_holding (wpAny_call_entry PyProof.Rows.slot_list_sort ⟨_, hoL, rfl⟩ PyProof.Rows.entry_list_sort
    (SrtO.list_sort_ord (s := { s with heap := h'.push (seqObj "list" acc.toList.toArray 0), toks := tk }) (SrtO.swo_lex k) hoL hlen (fun h2 => SrtO.pairs_sortableO (by omega) (fun v hm => (hP v hm).keeps fun b ob e _ => Heap.get?_push_of_some _ e) fun ob e => ?_) fun out hs hb => ⟨_, rfl, ?_⟩) (PyProof.Rows.args_list_sort _)))
  · have e' : some ob = some (seqObj "list" acc.toList.toArray 0) := e.symm.trans hoL
    cases e'
    intro c
    exact absurd (Value.type.inj c) (by decide)
  · obtain ⟨t', pt, et⟩ := perm_map_back (fun p : PE3 => Value.ref p.1) (l := t) (m := out) (ea ▸ hb.perm)
    have pw : t'.Pairwise fun x y => SF.lt2 x.2.1 y.2.1 := by
      have h1 : t'.Pairwise fun x y => SrtO.lexB y.2.1 x.2.1 = false := by
        have h0 : (t'.map fun p : PE3 => Value.ref p.1).Pairwise fun x y => SrtO.lexB (k y) (k x) = false := by rw [← et]; exact hs
        rw [List.pairwise_map] at h0
        refine h0.imp_of_mem fun {x y} hx hy hxy => ?_
        rw [hkk x (pt.mem_iff.mp hx), hkk y (pt.mem_iff.mp hy)] at hxy
        exact hxy
      have h2 : t'.Pairwise fun x y => x.2.1 ≠ y.2.1 := by
        have : (t'.map (·.2.1)).Nodup := (pt.map (·.2.1)).nodup_iff.mpr nd
        exact List.pairwise_map.mp this
      refine (h1.and h2).imp fun {x y} hxy => ?_
      have h3 := SrtO.lexB_no.mp hxy.1
      rcases SF.lt2_tri x.2.1 y.2.1 with c | c | c
      · exact c
      · exact absurd c hxy.2
      · exact absurd c h3
    obtain ⟨e', he'⟩ := PyProof.Rows.sortedHeap_at (vs := acc.toList) (out := out.toArray) hoL
    have hz : (t'.map fun x => V.ref x.1).length ≤ sizeLine := by rw [List.length_map, pt.length_eq]; exact z
    have rv : Vals (t'.map fun x => V.ref x.1) out := by
      rw [et]
      have : ∀ l : List PE3, Vals (l.map fun x => V.ref x.1) (l.map fun x => Value.ref x.1) := fun l => by
        induction l with
        | nil => exact .nil
        | cons x r ih => exact .cons rfl ih
      exact this t'
    refine wpAny_pure ⟨_, rfl, .ref h'.objs.size, upd H h'.objs.size (.lst (t'.map fun x => V.ref x.1)), I1.laid (t' := tk) (fun b u e => ?_) (Nat.le_refl _) ?_, rfl, q t' _ pt pw (I1.hok.fresh (Nat.le_refl _))⟩
    · have hbl : b < h'.objs.size := Heap.lt_size e
      rw [PyProof.Rows.sortedHeap_old (Nat.ne_of_lt hbl) (by rw [PyProof.Rows.size_push']; exact Nat.lt_succ_of_lt hbl)]
      exact Heap.get?_push_of_some _ e
    · exact ⟨hz, out, e', rv, he'⟩
end
end SFW

set_option maxRecDepth 100000
set_option maxHeartbeats 4000000
/-! # What a for walks, further: enumerate(tuple), zip of three lists, the items of a dict with tuple keys -/
namespace PySem
theorem meets_enumerate_newB1 {v : Value} {o : Obj} {H : Heap → Prop} (B : Begins v o H) :
    Meets (Builtin.«enumerate.__new__» ⟨[.type "enumerate", v], []⟩) (fun _ R s => H s.heap ∧
      R (.ok (.ret (.ref (s.heap.push o).objs.size))) { s with heap := (s.heap.push o).push { cls := .type "enumerate", data := .fields #[.none, .bool false, .ref s.heap.objs.size, rawInt 0, .none, .none] } }) :=
  .of_wp fun prog w A R s h => by
    obtain ⟨hp, g, d, tk, os⟩ := s; obtain ⟨h1, h⟩ := h
    have hsub := sub_enumerate
    have q1 : ∀ {A' : Around} {E : Value → Shared → Prop} {Q : Value → Shared → Prop}, Q (.ref hp.objs.size) ⟨hp.push o, g, d, tk, os⟩ → wpAny (model prog w) A' (pyIter v) Q E ⟨hp, g, d, tk, os⟩ :=
      fun q => B.iter prog w _ _ ⟨hp, g, d, tk, os⟩ _ h1 q
    wp_walk using q1
    refine wpAny_stack_any fun st => wpAny_pure ?_
    split
    · rename_i c _ _ _ _ _
      cases (c == Value.type "enumerate")
      · wp_walk using q1
        exact ⟨_, rfl, h⟩
      · wp_walk using q1
        exact ⟨_, rfl, h⟩
    · wp_walk using q1
      exact ⟨_, rfl, h⟩
section
variable {prog : Program} {w : World} {A : Around} {E : Value → Shared → Prop} {s : Shared}
theorem enum_begins1 {v : Value} {o : Obj} {H : Heap → Prop} {Q : Value → Shared → Prop} (B : Begins v o H) (h1 : H s.heap)
    (h : ∀ h', IsEnum h' (s.heap.objs.size + 1) s.heap.objs.size 0 .none → h'.get? s.heap.objs.size = some o → h'.objs.size = s.heap.objs.size + 2 →
      (∀ b o, s.heap.get? b = some o → h'.get? b = some o) → Q (.ref (s.heap.objs.size + 1)) { s with heap := h' }) :
    wpAny (model prog w) A (call (.type "enumerate") [v]) Q E s := by
  refine callType_new F.called_enumerate (by decide) (F.typeCall_enumerate_1 _) (F.newCall_enumerate_1 _) (fun obj => F.args_object_init_2 obj _) F.entry_enumerate_new
    (meets_enumerate_newB1 B) ⟨h1, ?_⟩
  have hz : (s.heap.push o).objs.size = s.heap.objs.size + 1 := Heap.size_push ..
  show _ ∧ _
  rw [hz]
  have he : IsEnum ((s.heap.push o).push { cls := .type "enumerate", data := .fields #[.none, .bool false, .ref s.heap.objs.size, rawInt 0, .none, .none] }) (s.heap.objs.size + 1) s.heap.objs.size 0 .none := by
    have := Heap.get?_push_size (s.heap.push o) (o := { cls := .type "enumerate", data := .fields #[.none, .bool false, .ref s.heap.objs.size, rawInt 0, .none, .none] }) rfl
    rw [hz] at this; exact this
  refine ⟨⟨_, he, rfl⟩, h _ he (Heap.get?_push_of_some _ (Heap.get?_push_size _ B.free)) (by rw [Heap.size_push, hz]) fun b o x => Heap.get?_push_of_some _ (Heap.get?_push_of_some _ x)⟩
end
end PySem
namespace SFW
open PySem PySem.Spec PyProof.Rows L2
/-! ### enumerate(tuple) -/
def IteT (K : PySem.W.Frag) (a : Addr) : It :=
  ⟨fun i H => ∃ (xs : List V) (x : V), SqT K H a xs ∧ xs[i]? = some x, fun i H v H' => ∃ T x, v = .ref T ∧ H T = none ∧ H' = upd H T (.tup [.int (i : Nat), x]) ∧ ∀ xs, SqT K H a xs → xs[i]? = some x, fun i H => ∃ xs : List V, SqT K H a xs ∧ i = xs.length⟩
theorem isTup_isTuple {h : Heap} {a : Addr} {its : Array Value} (p : IsTup h a its) : h.IsTuple a its := by
  obtain ⟨o, h1, h2, n, h3⟩ := p
  exact ⟨o, h1, h2, n, h3⟩
theorem turn_enumT {P : Program} {w : World} {K : PySem.W.Frag} {elts : List Expr} {kk : Nat} {tpos : Pos} (a e it : Addr) (hai : a ≠ it) (hae : a ≠ e) :
    Turn P w K (.Tuple elts kk tpos) (IteT K a) [e, it] e (fun i h => (∃ old, IsEnum h e it ((i : Nat) : Int) old) ∧ h.IsTupleIter it a i ∧ e ≠ it) where
  mem := by simp
  obj := fun i h st b hb => by
    obtain ⟨⟨old, he⟩, ⟨o, ho, hc, hd⟩, _⟩ := st
    have e' : b = e ∨ b = it := by simpa using hb
    rcases e' with z | z
    · rw [z]; exact ⟨_, he, fun v q => nomatch q⟩
    · rw [z]; exact ⟨o, ho, fun v q => by rw [hd] at q; cases q⟩
  keep := fun i h h' st k => let ⟨⟨old, he⟩, hi, hne⟩ := st; ⟨⟨old, k e (by simp) _ he⟩, hi.at fun o q => k it (by simp) o q, hne⟩
  item := by
    intro X hP hw hK hc i pins s σ H E I hf st hg
    subst hP hw hK
    obtain ⟨⟨old, he⟩, hit, hne⟩ := st
    obtain ⟨xs, x, hq, hx⟩ := hg
    obtain ⟨its, rv, p, hz⟩ := I.tuple hq
    obtain ⟨u, hu, ru⟩ := rv.get hx
    have hel : e < s.heap.objs.size := Heap.lt_size he
    have hil : it < s.heap.objs.size := by obtain ⟨_, q, _⟩ := hit; exact Heap.lt_size q
    have hlt : i < its.toArray.size := by
      have := (List.getElem?_eq_some_iff.mp hu).1
      simpa using this
    refine wpAny_pyNext_enum_itemC (Draws.tuple (A := X.A.in1) (I.ok.hd hc) it a hai its.toArray) he ⟨hit, isTup_isTuple p⟩ hlt hne (by simp; exact ⟨hne, hae.symm⟩) fun x' h' tk hx' ho hit' hT hsz hk => ?_
    have ex : x' = u := by
      have : its[i]? = some x' := by simpa using hx'
      rw [hu] at this
      exact (Option.some.inj this).symm
    subst ex
    refine ⟨_, rfl, wpAny_letOwnedTupleGo_enum (s := { s with heap := h', toks := tk + 1 }) ho fun h'' he' sb => ?_⟩
    have hT2 : h''.get? s.heap.objs.size = some { cls := .type "tuple", data := .seq #[.int i tk, x'] } := (sb.2 _ (Nat.ne_of_gt hel)).trans hT
    have new : ObjOk X.prog X.w (upd H s.heap.objs.size (.tup [.int (i : Nat), x])) h'' s.heap.objs.size (.tup [.int (i : Nat), x]) :=
      ⟨by show 2 ≤ sizeLine; decide, [.int i tk, x'], .cons ⟨_, rfl⟩ (.cons ru .nil), ⟨_, hT2, rfl, _, rfl⟩⟩
    have I1 : Inv X pins σ (upd H s.heap.objs.size (.tup [.int (i : Nat), x])) { s with heap := h'', toks := tk + 1 } :=
      I.turnedNew (ch := [e, it]) (fun b ob hb q => (sb.2 b (fun z => hb (by simp [z]))).trans (hk b ob (fun z => hb (by simp [z])) (fun z => hb (by simp [z])) q)) hf (Nat.le_refl _) new
    refine ⟨.ref s.heap.objs.size, _, I1, rfl, ⟨_, x, rfl, I.hok.fresh (Nat.le_refl _), rfl, fun ys hy => by rw [I.tuple_inj hy hq]; exact hx⟩, ⟨⟨x', ?_⟩, hit'.1.at fun o q => (sb.2 it (Ne.symm hne)).trans q, hne⟩, fun b hb => ?_⟩
    · have e1 : ((i + 1 : Nat) : Int) = (i : Int) + 1 := by omega
      rw [e1]; exact he'
    · have hb' : b < s.heap.objs.size := by
        have e' : b = e ∨ b = it := by simpa using hb
        rcases e' with z | z
        · rw [z]; exact hel
        · rw [z]; exact hil
      rw [upd_ne (Nat.ne_of_lt hb')]
      exact (hf b hb).1
  done := by
    intro X hP hw hK hc i pins s σ H E I hf st hg
    subst hP hw hK
    obtain ⟨⟨old, he⟩, hit, hne⟩ := st
    obtain ⟨xs, hq, hx⟩ := hg
    obtain ⟨its, rv, p, hz⟩ := I.tuple hq
    have hl := rv.length
    obtain ⟨f0, f1, f2, f3, f4, f5⟩ := hf it (by simp)
    have e2 : i = its.toArray.size := by simp; omega
    subst e2
    exact wpAny_pyNext_enum_endD (Draws.tuple (A := X.A.in1) (I.ok.hd hc) it a hai its.toArray) he ⟨hit, isTup_isTuple p⟩ fun h' eb => ⟨rfl, I.turned (t' := s.toks) (fun b o hb q => eb b o hb q) f0 f1 f3 f4 f5⟩
  self := fun A i s Q E st h => let ⟨⟨_, he⟩, _⟩ := st; wpAny_pyIter_enum he h
def iEnumT (K : PySem.W.Frag) (ta : TA) : TI := fun σ H R => ta σ H fun vs H1 => ∃ a xs, vs = [.ref a] ∧ SqT K H1 a xs ∧ R (IteT K a) H1
theorem pi_enumT {X : Cx} {e : Expr} {ta : TA} {p pos tpos : Pos} {elts : List Expr} {kk : Nat} (hg : Gl X "enumerate") (hm : X.mg "enumerate" = none) (ha : PA X [e] ta) (hs : starEach [e] X.env = [(false, eval e X.env)] := by rfl) :
    PI X (.Tuple elts kk tpos) (.Call (.Name "enumerate" p) [e] [] pos) (iEnumT X.K ta) := by
  refine ⟨fun pins s σ H R I h => ?_⟩
  refine Call_ (ld_blt I hg hm boot_enumerate (PyProof.Rows.callWith_type1 (thn (ha.run pos pins s σ H _ I h) fun us s1 ⟨vs, H1, I1, r1, q1⟩ => ?_) hs rfl))
  obtain ⟨a, xs, ex, hq, q⟩ := q1
  subst ex
  cases r1 with
  | cons r rr =>
    cases rr
    cases r
    obtain ⟨its, rv, p', hz⟩ := I1.tuple hq
    have hlt : a < s1.heap.objs.size := p'.lt
    refine enum_begins1 (begins_tuple a its.toArray) (isTup_isTuple p') fun h' he ho hsz hk => wpAny_pyIter_enum he ?_
    have I2 : Inv X pins σ H1 { s1 with heap := h' } := I1.kept (t' := s1.toks) hk
    refine ⟨s1.heap.objs.size + 1, [s1.heap.objs.size + 1, s1.heap.objs.size], _, _, H1, rfl, I2, turn_enumT a (s1.heap.objs.size + 1) s1.heap.objs.size (Nat.ne_of_lt hlt) (Nat.ne_of_lt (Nat.lt_succ_of_lt hlt)), ⟨⟨.none, he⟩, ⟨_, ho, rfl, rfl⟩, Nat.succ_ne_self _⟩, fun b hb => ?_, q⟩
    have e' : b = s1.heap.objs.size + 1 ∨ b = s1.heap.objs.size := by simpa using hb
    have hle : s1.heap.objs.size ≤ b := by
      rcases e' with z | z
      · rw [z]; exact Nat.le_add_right _ _
      · rw [z]; exact Nat.le_refl _
    exact I1.fpOk hle (I1.hok.fresh hle)
theorem walk_enumT {K : PySem.W.Frag} {a : Addr} {xs : List V} : Walk (IteT K a) xs.length (fun H => SqT K H a xs) (YPair (fun i => some (.int (i : Nat))) (fun i => xs[i]?)) := by
  refine ⟨fun i _ hi q => ⟨xs, xs[i], q, by simp [hi]⟩, fun _ q => ⟨xs, q, rfl⟩, fun i H v H' _ q y => ?_⟩
  obtain ⟨T, x, h1, h2, h3, h4⟩ := y
  exact ⟨T, .int (i : Nat), x, h1, h2, h3, rfl, h4 xs q⟩
/-! ### zip of three lists -/
def Itz3 (K : PySem.W.Frag) (a b c : Addr) : It :=
  ⟨fun i H => ∃ (xs ys zs : List V) (x y z : V), SqL K H a xs ∧ SqL K H b ys ∧ SqL K H c zs ∧ xs[i]? = some x ∧ ys[i]? = some y ∧ zs[i]? = some z,
    fun i H v H' => ∃ T x y z, v = .ref T ∧ H T = none ∧ H' = upd H T (.tup [x, y, z]) ∧ (∀ xs, SqL K H a xs → xs[i]? = some x) ∧ (∀ ys, SqL K H b ys → ys[i]? = some y) ∧ ∀ zs, SqL K H c zs → zs[i]? = some z,
    fun i H => ∃ xs ys zs : List V, SqL K H a xs ∧ SqL K H b ys ∧ SqL K H c zs ∧ i = xs.length ∧ i ≤ ys.length ∧ i ≤ zs.length⟩
theorem turn_zip3 {P : Program} {w : World} {K : PySem.W.Frag} {elts : List Expr} {kk : Nat} {tpos : Pos} {a b c z TI TO i1 i2 i3 : Addr} (D : ZipSep3 z TI TO i1 i2 i3 [i1, a] [i2, b] [i3, c]) (n1 : a ≠ i1) (n2 : b ≠ i2) (n3 : c ≠ i3) :
    Turn P w K (.Tuple elts kk tpos) (Itz3 K a b c) [z, TI, TO, i1, i2, i3] z (fun i h => IsZip h z TI TO .none ∧ IsTupOf3 h TI (.ref i1) (.ref i2) (.ref i3) ∧ (∃ x y u, IsTupOf3 h TO x y u) ∧ h.IsListIter i1 a i ∧ h.IsListIter i2 b i ∧ h.IsListIter i3 c i) where
  mem := by simp
  obj := fun i h st q hq => by
    obtain ⟨hz, hTI, ⟨x, y, u, hTO⟩, ⟨o1, e1, _, d1⟩, ⟨o2, e2, _, d2⟩, ⟨o3, e3, _, d3⟩⟩ := st
    have e' : q = z ∨ q = TI ∨ q = TO ∨ q = i1 ∨ q = i2 ∨ q = i3 := by simpa using hq
    rcases e' with r | r | r | r | r | r
    · rw [r]; exact ⟨_, hz, fun v q => nomatch q⟩
    · rw [r]; exact ⟨_, hTI, fun v q => nomatch q⟩
    · rw [r]; exact ⟨_, hTO, fun v q => nomatch q⟩
    · rw [r]; exact ⟨o1, e1, fun v q => by rw [d1] at q; cases q⟩
    · rw [r]; exact ⟨o2, e2, fun v q => by rw [d2] at q; cases q⟩
    · rw [r]; exact ⟨o3, e3, fun v q => by rw [d3] at q; cases q⟩
  keep := fun i h h' st k => by
    obtain ⟨hz, hTI, ⟨x, y, u, hTO⟩, h1, h2, h3⟩ := st
    exact ⟨k z (by simp) _ hz, k TI (by simp) _ hTI, ⟨x, y, u, k TO (by simp) _ hTO⟩, h1.at fun o q => k i1 (by simp) o q, h2.at fun o q => k i2 (by simp) o q, h3.at fun o q => k i3 (by simp) o q⟩
  item := by
    intro X hP hw hK hc i pins s σ H E I hf st hg
    subst hP hw hK
    obtain ⟨hz, hTI, ⟨x0, y0, u0, hTO⟩, h1, h2, h3⟩ := st
    obtain ⟨xs, ys, zs, x, y, u, hqx, hqy, hqz, hx, hy, hu⟩ := hg
    obtain ⟨its, rv, p, _⟩ := I.list hqx
    obtain ⟨its2, rv2, p2, _⟩ := I.list hqy
    obtain ⟨its3, rv3, p3, _⟩ := I.list hqz
    obtain ⟨w1, hw1, ru1⟩ := rv.get hx
    obtain ⟨w2, hw2, ru2⟩ := rv2.get hy
    obtain ⟨w3, hw3, ru3⟩ := rv3.get hu
    have hzl : z < s.heap.objs.size := Heap.lt_size hz
    have l1 : i < its.toArray.size := by have := (List.getElem?_eq_some_iff.mp hw1).1; simpa using this
    have l2 : i < its2.toArray.size := by have := (List.getElem?_eq_some_iff.mp hw2).1; simpa using this
    have l3 : i < its3.toArray.size := by have := (List.getElem?_eq_some_iff.mp hw3).1; simpa using this
    refine wpAny_pyNext_zipD3_item D (Draws.list (A := X.A.in1) (I.ok.hd hc) i1 a n1 its.toArray) (Draws.list (A := X.A.in1) (I.ok.hd hc) i2 b n2 its2.toArray) (Draws.list (A := X.A.in1) (I.ok.hd hc) i3 c n3 its3.toArray) hz hTI hTO ⟨h1, p.isList⟩ ⟨h2, p2.isList⟩ ⟨h3, p3.isList⟩ l1 l2 l3
      fun x1 x2 x3 h' tk q1 q2 q3 z' TO' h1' h2' h3' hT hsz hk => ?_
    have ex1 : x1 = w1 := by
      have : its[i]? = some x1 := by simpa using q1
      rw [hw1] at this; exact (Option.some.inj this).symm
    have ex2 : x2 = w2 := by
      have : its2[i]? = some x2 := by simpa using q2
      rw [hw2] at this; exact (Option.some.inj this).symm
    have ex3 : x3 = w3 := by
      have : its3[i]? = some x3 := by simpa using q3
      rw [hw3] at this; exact (Option.some.inj this).symm
    subst ex1 ex2 ex3
    refine ⟨_, rfl, wpAny_letOwnedTupleGo_zip (s := { s with heap := h', toks := tk }) z' fun h'' z'' sb => ?_⟩
    have hT2 : h''.get? s.heap.objs.size = some { cls := .type "tuple", data := .seq #[x1, x2, x3] } := (sb.2 _ (Nat.ne_of_gt hzl)).trans hT
    have new : ObjOk X.prog X.w (upd H s.heap.objs.size (.tup [x, y, u])) h'' s.heap.objs.size (.tup [x, y, u]) :=
      ⟨by show 3 ≤ sizeLine; decide, [x1, x2, x3], .cons ru1 (.cons ru2 (.cons ru3 .nil)), ⟨_, hT2, rfl, _, rfl⟩⟩
    have I1 : Inv X pins σ (upd H s.heap.objs.size (.tup [x, y, u])) { s with heap := h'', toks := tk } :=
      I.turnedNew (t' := tk) (ch := [z, TI, TO, i1, i2, i3]) (fun c o hb q => (sb.2 c (fun q' => hb (by simp [q']))).trans (hk c o (fun q' => hb (by simp [q'])) (fun q' => hb (by simp [q'])) (fun q' => hb (by simp [q'])) (fun q' => hb (by simp [q'])) (fun q' => hb (by simp [q'])) q)) hf (Nat.le_refl _) new
    refine ⟨.ref s.heap.objs.size, _, I1, rfl, ⟨_, x, y, u, rfl, I.hok.fresh (Nat.le_refl _), rfl, fun l hl => by rw [I.list_inj hl hqx]; exact hx, fun l hl => by rw [I.list_inj hl hqy]; exact hy, fun l hl => by rw [I.list_inj hl hqz]; exact hu⟩, ⟨z'', ?_, ⟨x1, x2, x3, ?_⟩, ?_, ?_, ?_⟩, fun c hcm => ?_⟩
    · exact (sb.2 _ D.TIz).trans (hk _ _ D.TIz D.TITO D.TIi1 D.TIi2 D.TIi3 hTI)
    · exact (sb.2 _ D.TOz).trans TO'
    · exact h1'.1.at fun o q => (sb.2 _ (Ne.symm D.zi1)).trans q
    · exact h2'.1.at fun o q => (sb.2 _ (Ne.symm D.zi2)).trans q
    · exact h3'.1.at fun o q => (sb.2 _ (Ne.symm D.zi3)).trans q
    · have hlt : c < s.heap.objs.size := by
        have e' : c = z ∨ c = TI ∨ c = TO ∨ c = i1 ∨ c = i2 ∨ c = i3 := by simpa using hcm
        rcases e' with q | q | q | q | q | q
        · rw [q]; exact hzl
        · rw [q]; exact Heap.lt_size hTI
        · rw [q]; exact Heap.lt_size hTO
        · rw [q]; obtain ⟨_, e1, _⟩ := h1; exact Heap.lt_size e1
        · rw [q]; obtain ⟨_, e2, _⟩ := h2; exact Heap.lt_size e2
        · rw [q]; obtain ⟨_, e3, _⟩ := h3; exact Heap.lt_size e3
      rw [upd_ne (Nat.ne_of_lt hlt)]
      exact (hf c hcm).1
  done := by
    intro X hP hw hK hc i pins s σ H E I hf st hg
    subst hP hw hK
    obtain ⟨hz, hTI, ⟨x0, y0, u0, hTO⟩, h1, h2, h3⟩ := st
    obtain ⟨xs, ys, zs, hqx, hqy, hqz, e1, e2, e3⟩ := hg
    obtain ⟨its, rv, p, _⟩ := I.list hqx
    obtain ⟨its2, rv2, p2, _⟩ := I.list hqy
    obtain ⟨its3, rv3, p3, _⟩ := I.list hqz
    have l1 := rv.length
    have l2 := rv2.length
    have l3 := rv3.length
    exact wpAny_pyNext_zipD3_end D (Draws.list (A := X.A.in1) (I.ok.hd hc) i1 a n1 its.toArray) (Draws.list (A := X.A.in1) (I.ok.hd hc) i2 b n2 its2.toArray) (Draws.list (A := X.A.in1) (I.ok.hd hc) i3 c n3 its3.toArray) hz hTI hTO ⟨h1, p.isList⟩ ⟨h2, p2.isList⟩ ⟨h3, p3.isList⟩
      (by simp; omega) (by simp; omega) (by simp; omega) (.inl (by simp; omega)) fun h' tk hk => ⟨rfl, I.turnedL (t' := tk) (ch := [z, TI, TO, i1, i2, i3]) (fun c o hb q =>
      hk c o (fun q' => hb (by simp [q'])) (fun q' => hb (by simp [q'])) (fun q' => hb (by simp [q'])) (fun q' => hb (by simp [q'])) (fun q' => hb (by simp [q'])) q) hf⟩
  self := fun A i s Q E st h => wpAny_pyIter_zip st.1 h
def iZip3 (K : PySem.W.Frag) (ta : TA) : TI := fun σ H R => ta σ H fun vs H1 => ∃ a b c xs ys zs, vs = [.ref a, .ref b, .ref c] ∧ SqL K H1 a xs ∧ SqL K H1 b ys ∧ SqL K H1 c zs ∧ R (Itz3 K a b c) H1
theorem pi_zip3 {X : Cx} {e e2 e3 : Expr} {ta : TA} {p pos tpos : Pos} {elts : List Expr} {kk : Nat} (hg : Gl X "zip") (hm : X.mg "zip" = none) (ha : PA X [e, e2, e3] ta)
    (hs : starEach [e, e2, e3] X.env = (false, eval e X.env) :: starEach [e2, e3] X.env := by rfl) (hpl : (backTo pos (starEach [e2, e3] X.env)).any (·.1) = false := by rfl) :
    PI X (.Tuple elts kk tpos) (.Call (.Name "zip" p) [e, e2, e3] [] pos) (iZip3 X.K ta) := by
  refine ⟨fun pins s σ H R I h => ?_⟩
  refine Call_ (ld_blt I hg hm PyProof.Rows.boot_zip (PyProof.Rows.callWith_type1 (thn (ha.run pos pins s σ H _ I h) fun us s1 ⟨vs, H1, I1, r1, q1⟩ => ?_) hs hpl))
  obtain ⟨a, b, c, xs, ys, zs, ex, hqx, hqy, hqz, q⟩ := q1
  subst ex
  cases r1 with
  | cons r rr =>
    cases rr with
    | cons r' rr =>
      cases rr with
      | cons r'' rr =>
        cases rr
        cases r
        cases r'
        cases r''
        obtain ⟨its, rv, p1, _⟩ := I1.list hqx
        obtain ⟨its2, rv2, p2, _⟩ := I1.list hqy
        obtain ⟨its3, rv3, p3, _⟩ := I1.list hqz
        have la : a < s1.heap.objs.size := p1.lt
        have lb : b < s1.heap.objs.size := p2.lt
        have lc : c < s1.heap.objs.size := p3.lt
        refine zip_begins3 (begins_list a its.toArray) (begins_list b its2.toArray) (begins_list c its3.toArray) p1.isList p2.isList p3.isList fun h' hz hTI hTO h1 h2 h3 hsz hk => wpAny_pyIter_zip hz ?_
        have I2 : Inv X pins σ H1 { s1 with heap := h' } := I1.kept (t' := s1.toks) hk
        have S := zip_sep3 (N := s1.heap.objs.size) (fp1 := [a]) (fp2 := [b]) (fp3 := [c]) (by simpa using la) (by simpa using lb) (by simpa using lc)
        refine ⟨s1.heap.objs.size + 5, [s1.heap.objs.size + 5, s1.heap.objs.size + 3, s1.heap.objs.size + 4, s1.heap.objs.size, s1.heap.objs.size + 1, s1.heap.objs.size + 2], _, _, H1, rfl, I2, turn_zip3 S (Nat.ne_of_lt la) (Nat.ne_of_lt (Nat.lt_succ_of_lt lb)) (Nat.ne_of_lt (Nat.lt_succ_of_lt (Nat.lt_succ_of_lt lc))), ⟨hz, hTI, ⟨_, _, _, hTO⟩, ⟨_, h1, rfl, rfl⟩, ⟨_, h2, rfl, rfl⟩, ⟨_, h3, rfl, rfl⟩⟩, fun d hcm => ?_, q⟩
        have e' : d = s1.heap.objs.size + 5 ∨ d = s1.heap.objs.size + 3 ∨ d = s1.heap.objs.size + 4 ∨ d = s1.heap.objs.size ∨ d = s1.heap.objs.size + 1 ∨ d = s1.heap.objs.size + 2 := by simpa using hcm
        have hle : s1.heap.objs.size ≤ d := by
          rcases e' with z | z | z | z | z | z
          · rw [z]; exact Nat.le_add_right _ _
          · rw [z]; exact Nat.le_add_right _ _
          · rw [z]; exact Nat.le_add_right _ _
          · rw [z]; exact Nat.le_refl _
          · rw [z]; exact Nat.le_add_right _ _
          · rw [z]; exact Nat.le_add_right _ _
        exact I1.fpOk hle (I1.hok.fresh hle)
/-- n turns, all three as long -/
theorem walk_zip3 {K : PySem.W.Frag} {a b c : Addr} {xs ys zs : List V} (h1 : ys.length = xs.length) (h2 : zs.length = xs.length) : Walk (Itz3 K a b c) xs.length (fun H => SqL K H a xs ∧ SqL K H b ys ∧ SqL K H c zs)
    (fun i H v H' => ∃ T x y z, v = .ref T ∧ H T = none ∧ H' = upd H T (.tup [x, y, z]) ∧ xs[i]? = some x ∧ ys[i]? = some y ∧ zs[i]? = some z) := by
  refine ⟨fun i _ hi q => ?_, fun _ q => ⟨xs, ys, zs, q.1, q.2.1, q.2.2, rfl, by omega, by omega⟩, fun i H v H' _ q y => ?_⟩
  · have b2 : i < ys.length := by omega
    have b3 : i < zs.length := by omega
    exact ⟨xs, ys, zs, xs[i], ys[i], zs[i], q.1, q.2.1, q.2.2, by simp [hi], by simp [b2], by simp [b3]⟩
  · obtain ⟨T, x, y', z, e1, e2, e3, e4, e5, e6⟩ := y
    exact ⟨T, x, y', z, e1, e2, e3, e4 xs q.1, e5 ys q.2.1, e6 zs q.2.2⟩
/-! ### the items of a locked dict with tuple keys -/
section
variable {X : Cx} {pins : List (Addr × Obj)} {σ : L2.St} {H : Hp} {s : Shared} {d : Addr} {o : Obj}
theorem frzTv {kvs : List (List L2.Key × V)} (I : Inv X pins σ H s) (h : H d = some (.frz o (.dT kvs))) :
    (d == sysModules) = false ∧ s.heap.get? d = some o ∧ o.ExactDict ∧ ∃ (es : Array DictEntry) (ep : Nat), o.data = .dict es ep ∧ es.size = kvs.length ∧
      ∀ (i : Nat) (k : List L2.Key) (v : V), kvs[i]? = some (k, v) → ∃ (en : DictEntry) (q : Addr), es[i]? = some en ∧ en.key = .ref q ∧ H q = some (.tup (k.map kV)) ∧ RelV v en.val := by
  obtain ⟨hd, z, hs, xs, pr, o', es, ep, ho, hx, hdt, he, _⟩ := I.hok d _ h
  rw [hd] at ho
  cases ho
  refine ⟨hs, hd, hx, es, ep, hdt, ?_, fun i k v e => ?_⟩
  · have l1 : es.size = xs.length := size_of_entries he
    have l2 : kvs.length = xs.length := Paired.length pr
    omega
  · obtain ⟨b, hb, e1, e2, e3⟩ := paired_get pr e
    have q := entry_at he i
    rw [hb] at q
    exact ⟨_, b.2.1, q, rfl, e2, e3⟩
end
/-- the pairs, each a new tuple of the key's own tuple and the value -/
def Itit (d : Addr) (o : Obj) (kvs : List (List L2.Key × V)) : It :=
  ⟨fun i H => H d = some (.frz o (.dT kvs)) ∧ i < kvs.length, fun i H x H' => ∃ T k v q, kvs[i]? = some (k, v) ∧ x = .ref T ∧ H T = none ∧ H q = some (.tup (k.map kV)) ∧ H' = upd H T (.tup [.ref q, v]), fun i H => H d = some (.frz o (.dT kvs)) ∧ kvs.length ≤ i⟩
theorem turn_itemsT {P : Program} {w : World} {K : PySem.W.Frag} {d : Addr} {o : Obj} {es : Array DictEntry} {ep : Nat} {kvs : List (List L2.Key × V)} {elts : List Expr} {kk : Nat} {tpos : Pos} (it : Addr) (hod : o.data = .dict es ep) :
    Turn P w K (.Tuple elts kk tpos) (Itit d o kvs) [it] it (fun i h => ∃ ok ov, IsItemIter h it d i kvs.length ep ok ov) where
  mem := by simp
  obj := fun i h st b hb => by
    have e : b = it := by simpa using hb
    subst e
    obtain ⟨ok, ov, e⟩ := st
    exact ⟨_, e, fun v z => nomatch z⟩
  keep := fun i h h' st k => let ⟨ok, ov, e⟩ := st; ⟨ok, ov, k it (by simp) _ e⟩
  item := by
    intro X hP hw hK hc i pins s σ H E I hf st hg
    subst hP hw hK
    obtain ⟨hd, hi⟩ := hg
    obtain ⟨hs, hgd, hx, es', ep', hdt, hsz, kv⟩ := frzTv I hd
    obtain ⟨rfl, rfl⟩ := dict_ep hod hdt
    obtain ⟨⟨k, v⟩, hkv⟩ : ∃ p, kvs[i]? = some p := ⟨kvs[i], List.getElem?_eq_getElem hi⟩
    obtain ⟨en, q, hen, hq, hHq, rv⟩ := kv i k v hkv
    obtain ⟨ok, ov, he⟩ := st
    rw [← hsz] at he
    have hlt : it < s.heap.objs.size := Heap.lt_size he
    have hie : i < es'.size := by omega
    have een : es'[i] = en := by
      have := Array.getElem?_eq_getElem hie
      rw [hen] at this
      exact (Option.some.inj this).symm
    refine DT.nextI he ⟨o, hgd, hx, hdt⟩ hie fun h' ho hT hz hk => ?_
    rw [een] at ho hT
    refine ⟨_, rfl, wpAny_letOwnedTupleGo_items (s := { s with heap := h' }) ho fun h'' he' sb => ?_⟩
    have hT2 : h''.get? s.heap.objs.size = some { cls := .type "tuple", data := .seq #[en.key, en.val] } := (sb.2 _ (Nat.ne_of_gt hlt)).trans hT
    have new : ObjOk X.prog X.w (upd H s.heap.objs.size (.tup [.ref q, v])) h'' s.heap.objs.size (.tup [.ref q, v]) :=
      ⟨by show 2 ≤ sizeLine; decide, [en.key, en.val], .cons hq (.cons rv .nil), ⟨_, hT2, rfl, _, rfl⟩⟩
    have I1 : Inv X pins σ (upd H s.heap.objs.size (.tup [.ref q, v])) { s with heap := h'' } :=
      I.turnedNew (t' := s.toks) (ch := [it]) (fun b ob hb e => (sb.2 b (by simpa using hb)).trans (hk b ob (by simpa using hb) e)) hf (Nat.le_refl _) new
    refine ⟨.ref s.heap.objs.size, _, I1, rfl, ⟨_, k, v, q, hkv, rfl, I.hok.fresh (Nat.le_refl _), hHq, rfl⟩, ⟨en.key, en.val, ?_⟩, fun b hb => ?_⟩
    · rw [← hsz]; exact he'
    · have e : b = it := by simpa using hb
      rw [e, upd_ne (Nat.ne_of_lt hlt)]
      exact (hf it (by simp)).1
  done := by
    intro X hP hw hK hc i pins s σ H E I hf st hg
    subst hP hw hK
    obtain ⟨hd, hi⟩ := hg
    obtain ⟨f0, f1, f2, f3, f4, f5⟩ := hf it (by simp)
    obtain ⟨hs, hgd, hx, es', ep', hdt, hsz, kv⟩ := frzTv I hd
    obtain ⟨rfl, rfl⟩ := dict_ep hod hdt
    obtain ⟨ok, ov, he⟩ := st
    rw [← hsz] at he
    exact DT.endI (I.ok.hd hc) he ⟨o, hgd, hx, hdt⟩ (by omega) fun h' eb => ⟨rfl, I.turned (t' := s.toks) (fun b ob hb e => eb b ob hb e) f0 f1 f3 f4 f5⟩
  self := fun A i s Q E st h => let ⟨_, _, e⟩ := st; PySem.W.kcp_self e h
def iItemsT (td : TE) : TI := fun σ H R => td σ H fun x H1 => ∃ d o kvs, x = .ref d ∧ H1 d = some (.frz o (.dT kvs)) ∧ R (Itit d o kvs) H1
theorem pi_itemsT {X : Cx} {e : Expr} {td : TE} {apos cpos : Pos} {elts : List Expr} {kk : Nat} {tpos : Pos} (he : PE X e td) (hbase : attributeBase e "items" X.env (eval e X.env) = eval e X.env := by rfl) (hline : (apos.endLine == cpos.line) = true := by rfl) :
    PI X (.Tuple elts kk tpos) (.Call (.Attribute e "items" apos) [] [] cpos) (iItemsT td) := by
  refine ⟨fun pins s σ H R I h => ?_⟩
  refine wpAny_Call_method (T := "dict") (id := "dict.items") hbase rfl hline F.plainAttrs_dict F.slot_dict_items F.type_dict_items (thn (he.run pins s σ H _ I h) fun u s1 ⟨x, H1, I1, rx, d, o, kvs, ex, hd, q⟩ => ?_)
  subst ex
  obtain rfl : u = Value.ref d := rx
  obtain ⟨hs, hgd, hx, es, ep, hdt, hsz, kv⟩ := frzTv I1 hd
  have hT : s1.TypeIs (.ref d) "dict" := ⟨o, hgd, hx.1⟩
  refine ⟨hT, fun b q => ?_, ?_⟩
  · cases q
    exact ⟨o, hgd, hx.2.1⟩
  have I2 : Inv X pins σ H1 { s1 with heap := s1.heap.push { cls := .type "dict_items", data := .fields #[.ref d] } } := I1.kept (t' := s1.toks) fun b ob q => Heap.get?_push_of_some _ q
  have fin : wpAny (model X.prog X.w) X.A (pyIter (.ref s1.heap.objs.size)) (PIE X pins σ (.Tuple elts kk tpos) R) X.xe { s1 with heap := s1.heap.push { cls := .type "dict_items", data := .fields #[.ref d] } } := by
    refine DT.iterI (d := d) ⟨_, Heap.get?_push_size _ rfl, rfl, rfl⟩ (DT.Raw.push ⟨o, hgd, hx, hdt⟩ _) (pi_one (tk := s1.toks) I2 _ (turn_itemsT _ hdt) ⟨.none, .none, ?_⟩ q)
    rw [← hsz]
    exact Heap.get?_push_size _ rfl
  show wpAny _ _ (callWith cpos (.builtin "dict.items") [.ref d] [] []) _ X.xe s1
  exact method_meetsIn F.slot_dict_items F.entry_dict_items rfl (PySem.evalArgs_none ⟨rfl, hT, F.args_dict_items_1 _, _, DT.meetsItems (es := es) (ep := ep) hs, ⟨o, hgd, hx, hdt⟩, fin⟩)
theorem walk_itemsT {d : Addr} {o : Obj} {kvs : List (List L2.Key × V)} : Walk (Itit d o kvs) kvs.length (fun H => H d = some (.frz o (.dT kvs)))
    (fun i H x H' => ∃ T k v q, kvs[i]? = some (k, v) ∧ x = .ref T ∧ H T = none ∧ H q = some (.tup (k.map kV)) ∧ H' = upd H T (.tup [.ref q, v])) :=
  ⟨fun _ _ hi q => ⟨q, hi⟩, fun _ q => ⟨q, Nat.le_refl _⟩, fun _ _ _ _ _ _ y => y⟩
end SFW

set_option maxRecDepth 100000
set_option maxHeartbeats 4000000
/-! # What expressions come to, told as data -/
namespace SFW
open PySem PySem.Spec PyProof.Rows L2
open SF (Poly)
section
variable {K : PySem.W.Frag} {H H' : Hp}
theorem rd_same {a : Addr} {u : HO} (e : Same H H') (h : Rd H a u) : Rd H' a u := by
  rcases h with h | ⟨o, h⟩
  · exact .inl (e _ _ h)
  · exact .inr ⟨o, e _ _ h⟩
theorem sqt_same {a : Addr} {xs : List V} (e : Same H H') (h : SqT K H a xs) : SqT K H' a xs := by
  rcases h with h | h
  · exact .inl (rd_same e h)
  · exact .inr h
theorem sql_same {a : Addr} {xs : List V} (e : Same H H') (h : SqL K H a xs) : SqL K H' a xs := e.seq h
mutual
theorem dp_same (e : Same H H') : ∀ {v : V} {d : PyData}, Dp K H v d → Dp K H' v d
  | _, _, .non => .non
  | _, _, .bl b => .bl b
  | _, _, .int i => .int i
  | _, _, .str x => .str x
  | _, _, .lst h r => .lst (sql_same e h) (dpa_same e r)
  | _, _, .tup h r => .tup (sqt_same e h) (dpa_same e r)
theorem dpa_same (e : Same H H') : ∀ {vs : List V} {ds : List PyData}, DpAll K H vs ds → DpAll K H' vs ds
  | _, _, .nil => .nil
  | _, _, .cons h r => .cons (dp_same e h) (dpa_same e r)
end
/-- tuples alone are kept -/
def SameT (H H' : Hp) : Prop := ∀ b xs, Rd H b (.tup xs) → Rd H' b (.tup xs)
theorem SameT.of (e : Same H H') : SameT H H' := fun b xs h => rd_same e h
theorem SameT.lst {p : Addr} {xs ys : List V} (h : H p = some (.lst xs)) : SameT H (upd H p (.lst ys)) := fun b zs r => by
  have hb : b ≠ p := fun e => by
    subst e
    rcases r with r | ⟨o, r⟩ <;> rw [h] at r <;> cases r
  rcases r with r | ⟨o, r⟩
  · exact .inl (by rw [upd_ne hb]; exact r)
  · exact .inr ⟨o, by rw [upd_ne hb]; exact r⟩
theorem SameT.trans {H1 H2 H3 : Hp} (a : SameT H1 H2) (b : SameT H2 H3) : SameT H1 H3 := fun c xs h => b _ _ (a _ _ h)
mutual
def noL : PyData → Bool
  | .list _ => false
  | .tuple ds => noLs ds
  | _ => true
def noLs : List PyData → Bool
  | [] => true
  | d :: ds => noL d && noLs ds
end
theorem noLs_map {α : Type} {f : α → PyData} : ∀ {l : List α}, (∀ a ∈ l, noL (f a) = true) → noLs (l.map f) = true
  | [], _ => rfl
  | a :: l, h => by
    show (noL (f a) && noLs (l.map f)) = true
    rw [h a List.mem_cons_self, noLs_map fun b hb => h b (List.mem_cons_of_mem _ hb)]; rfl
theorem noLs_mem : ∀ {ds : List PyData} {d : PyData}, noLs ds = true → d ∈ ds → noL d = true
  | d :: ds, e, n, h => by
    simp only [noLs, Bool.and_eq_true] at n
    rcases List.mem_cons.mp h with z | z
    · rw [z]; exact n.1
    · exact noLs_mem n.2 z
mutual
theorem dp_sameT (e : SameT H H') : ∀ {v : V} {d : PyData}, noL d = true → Dp K H v d → Dp K H' v d
  | _, _, _, .non => .non
  | _, _, _, .bl b => .bl b
  | _, _, _, .int i => .int i
  | _, _, _, .str x => .str x
  | _, _, n, .lst h r => nomatch n
  | _, _, n, .tup h r => .tup (h.imp (e _ _) id) (dpa_sameT e n r)
theorem dpa_sameT (e : SameT H H') : ∀ {vs : List V} {ds : List PyData}, noLs ds = true → DpAll K H vs ds → DpAll K H' vs ds
  | _, _, _, .nil => .nil
  | _, _, n, .cons h r => .cons (dp_sameT e (by simp only [noLs, Bool.and_eq_true] at n; exact n.1) h) (dpa_sameT e (by simp only [noLs, Bool.and_eq_true] at n; exact n.2) r)
end
theorem dp_int {v : V} {i : Int} (h : Dp K H v (.int i)) : v = .int i := by cases h; rfl
theorem dp_bl {v : V} {b : Bool} (h : Dp K H v (.bool b)) : v = .bl b := by cases h; rfl
theorem dp_non {v : V} (h : Dp K H v .none) : v = .non := by cases h; rfl
theorem dp_tup {v : V} {ds : List PyData} (h : Dp K H v (.tuple ds)) : ∃ a xs, v = .ref a ∧ SqT K H a xs ∧ DpAll K H xs ds := by cases h; exact ⟨_, _, rfl, ‹_›, ‹_›⟩
theorem dp_lst {v : V} {ds : List PyData} (h : Dp K H v (.list ds)) : ∃ a xs, v = .ref a ∧ SqL K H a xs ∧ DpAll K H xs ds := by cases h; exact ⟨_, _, rfl, ‹_›, ‹_›⟩
theorem dpa_nil {vs : List V} (h : DpAll K H vs []) : vs = [] := by cases h; rfl
theorem dpa_cons {vs : List V} {d : PyData} {ds : List PyData} (h : DpAll K H vs (d :: ds)) : ∃ v r, vs = v :: r ∧ Dp K H v d ∧ DpAll K H r ds := by cases h; exact ⟨_, _, rfl, ‹_›, ‹_›⟩
theorem dpa_one {vs : List V} {d : PyData} (h : DpAll K H vs [d]) : ∃ v, vs = [v] ∧ Dp K H v d := by
  obtain ⟨v, r, rfl, h1, h2⟩ := dpa_cons h
  rw [dpa_nil h2]; exact ⟨v, rfl, h1⟩
theorem dpa_two {vs : List V} {d e : PyData} (h : DpAll K H vs [d, e]) : ∃ v u, vs = [v, u] ∧ Dp K H v d ∧ Dp K H u e := by
  obtain ⟨v, r, rfl, h1, h2⟩ := dpa_cons h
  obtain ⟨u, rfl, h3⟩ := dpa_one h2
  exact ⟨v, u, rfl, h1, h3⟩
theorem dpa_three {vs : List V} {d e f : PyData} (h : DpAll K H vs [d, e, f]) : ∃ v u w, vs = [v, u, w] ∧ Dp K H v d ∧ Dp K H u e ∧ Dp K H w f := by
  obtain ⟨v, r, rfl, h1, h2⟩ := dpa_cons h
  obtain ⟨u, w, rfl, h3, h4⟩ := dpa_two h2
  exact ⟨v, u, w, rfl, h1, h3, h4⟩
theorem dpa_len : ∀ {vs : List V} {ds : List PyData}, DpAll K H vs ds → vs.length = ds.length
  | _, _, .nil => rfl
  | _, _, .cons _ r => by simp [dpa_len r]
theorem dpa_get : ∀ {vs : List V} {ds : List PyData} {i : Nat} {v : V}, DpAll K H vs ds → vs[i]? = some v → ∃ d, ds[i]? = some d ∧ Dp K H v d
  | _, _, _, _, .nil, h => by simp at h
  | _, _, 0, _, .cons h r, e => by simp at e; subst e; exact ⟨_, rfl, h⟩
  | _, _, i + 1, _, .cons h r, e => by simpa using dpa_get (i := i) r (by simpa using e)
theorem dpa_at : ∀ {vs : List V} {ds : List PyData} {i : Nat} {d : PyData}, DpAll K H vs ds → ds[i]? = some d → ∃ v, vs[i]? = some v ∧ Dp K H v d
  | _, _, _, _, .nil, h => by simp at h
  | _, _, 0, _, .cons h r, e => by simp at e; subst e; exact ⟨_, rfl, h⟩
  | _, _, i + 1, _, .cons h r, e => by simpa using dpa_at (i := i) r (by simpa using e)
theorem dpa_app : ∀ {vs us : List V} {ds es : List PyData}, DpAll K H vs ds → DpAll K H us es → DpAll K H (vs ++ us) (ds ++ es)
  | _, _, _, _, .nil, h => h
  | _, _, _, _, .cons h r, q => .cons h (dpa_app r q)
theorem dpa_snoc {vs : List V} {ds : List PyData} {v : V} {d : PyData} (h : DpAll K H vs ds) (q : Dp K H v d) : DpAll K H (vs ++ [v]) (ds ++ [d]) := dpa_app h (.cons q .nil)
theorem dpa_ints : ∀ {ns : List Int} {vs : List V}, DpAll K H vs (ns.map PyData.int) → vs = ns.map V.int
  | [], _, h => dpa_nil h
  | n :: ns, _, h => by
    obtain ⟨v, r, rfl, h1, h2⟩ := dpa_cons h
    rw [dp_int h1, dpa_ints h2]; rfl
theorem ints_dpa : ∀ (ns : List Int), DpAll K H (ns.map V.int) (ns.map PyData.int)
  | [] => .nil
  | n :: ns => .cons (.int n) (ints_dpa ns)
theorem dpa_drop : ∀ {vs : List V} {ds : List PyData} (n : Nat), DpAll K H vs ds → DpAll K H (vs.drop n) (ds.drop n)
  | _, _, 0, h => h
  | _, _, _ + 1, .nil => .nil
  | _, _, n + 1, .cons _ r => dpa_drop n r
theorem dpa_take : ∀ {vs : List V} {ds : List PyData} (n : Nat), DpAll K H vs ds → DpAll K H (vs.take n) (ds.take n)
  | _, _, 0, _ => .nil
  | _, _, _ + 1, .nil => .nil
  | _, _, n + 1, .cons h r => .cons h (dpa_take n r)
/-- a tuple of two -/
theorem dp_pair {v : V} {d e : PyData} (h : Dp K H v (.tuple [d, e])) : ∃ a x y, v = .ref a ∧ SqT K H a [x, y] ∧ Dp K H x d ∧ Dp K H y e := by
  obtain ⟨a, xs, rfl, h1, h2⟩ := dp_tup h
  obtain ⟨x, y, rfl, h3, h4⟩ := dpa_two h2
  exact ⟨a, x, y, rfl, h1, h3, h4⟩
theorem dp_triple {v : V} {d e f : PyData} (h : Dp K H v (.tuple [d, e, f])) : ∃ a x y z, v = .ref a ∧ SqT K H a [x, y, z] ∧ Dp K H x d ∧ Dp K H y e ∧ Dp K H z f := by
  obtain ⟨a, xs, rfl, h1, h2⟩ := dp_tup h
  obtain ⟨x, y, z, rfl, h3, h4, h5⟩ := dpa_three h2
  exact ⟨a, x, y, z, rfl, h1, h3, h4, h5⟩
theorem dp_ex {v : V} {a b : Int} (h : Dp K H v (.tuple [.int a, .int b])) : ∃ p, v = .ref p ∧ SqT K H p [.int a, .int b] := by
  obtain ⟨p, x, y, rfl, h1, h2, h3⟩ := dp_pair h
  rw [dp_int h2, dp_int h3] at h1
  exact ⟨p, rfl, h1⟩
theorem ex_dp {p : Addr} {a b : Int} (h : SqT K H p [.int a, .int b]) : Dp K H (.ref p) (.tuple [.int a, .int b]) := .tup h (.cons (.int a) (.cons (.int b) .nil))
end
/-! ### what comes to what, the known kept -/
def EvP (te : TE) (σ : L2.St) (H : Hp) (P : V → Hp → Prop) : Prop := ∀ H1, Same H H1 → ∀ Q : VK, (∀ v H2, Same H1 H2 → P v H2 → Q v H2) → te σ H1 Q
def EvB (tt : TT) (σ : L2.St) (H : Hp) (b : Bool) : Prop := ∀ H1, Same H H1 → ∀ Q : Bool → Hp → Prop, (∀ H2, Same H1 H2 → Q b H2) → tt σ H1 Q
def EvAP (ta : TA) (σ : L2.St) (H : Hp) (P : List V → Hp → Prop) : Prop := ∀ H1, Same H H1 → ∀ Q : List V → Hp → Prop, (∀ vs H2, Same H1 H2 → P vs H2 → Q vs H2) → ta σ H1 Q
abbrev EvD (K : PySem.W.Frag) (te : TE) (σ : L2.St) (H : Hp) (d : PyData) : Prop := EvP te σ H fun v H' => Dp K H' v d
abbrev EvAD (K : PySem.W.Frag) (ta : TA) (σ : L2.St) (H : Hp) (ds : List PyData) : Prop := EvAP ta σ H fun vs H' => DpAll K H' vs ds
/-- one value of no objects -/
abbrev EvV (te : TE) (σ : L2.St) (H : Hp) (v : V) : Prop := EvP te σ H fun u _ => u = v
section
variable {K : PySem.W.Frag} {σ : L2.St} {H H' : Hp} {ta tb te : TE} {tr : TA} {P P1 P2 : V → Hp → Prop} {d da db : PyData} {ds : List PyData} {r : R2}
theorem EvP.up (e : Same H H') (h : EvP te σ H P) : EvP te σ H' P := fun H1 e1 => h H1 (e.trans e1)
theorem EvAP.up {PA : List V → Hp → Prop} (e : Same H H') (h : EvAP tr σ H PA) : EvAP tr σ H' PA := fun H1 e1 => h H1 (e.trans e1)
theorem EvB.up {tt : TT} {b : Bool} (e : Same H H') (h : EvB tt σ H b) : EvB tt σ H' b := fun H1 e1 => h H1 (e.trans e1)
theorem EvP.imp (h : EvP te σ H P) (k : ∀ v H', Same H H' → P v H' → P1 v H') : EvP te σ H P1 := fun H1 e1 Q q => h H1 e1 Q fun v H2 e2 p => q v H2 e2 (k v H2 (e1.trans e2) p)
theorem EvP.go {Q : VK} (h : EvP te σ H P) (k : ∀ v H', Same H H' → P v H' → Q v H') : te σ H Q := h H (Same.refl H) Q k
theorem EvB.go {tt : TT} {b : Bool} {Q : Bool → Hp → Prop} (h : EvB tt σ H b) (k : ∀ H', Same H H' → Q b H') : tt σ H Q := h H (Same.refl H) Q k
theorem EvAP.go {PA : List V → Hp → Prop} {Q : List V → Hp → Prop} (h : EvAP tr σ H PA) (k : ∀ v H', Same H H' → PA v H' → Q v H') : tr σ H Q := h H (Same.refl H) Q k
theorem evp_var {i : Nat} {v : V} (h : σ[i]? = some (some v)) (k : ∀ H', Same H H' → P v H') : EvP (tVar i) σ H P := fun H1 e1 Q q => ⟨v, h, q v H1 (Same.refl _) (k H1 e1)⟩
theorem evd_var {i : Nat} {v : V} (h : σ[i]? = some (some v)) (k : Dp K H v d) : EvD K (tVar i) σ H d := evp_var h fun H' e => dp_same e k
theorem evv_var {i : Nat} {v : V} (h : σ[i]? = some (some v)) : EvV (tVar i) σ H v := evp_var h fun _ _ => rfl
theorem evp_c {v : V} (k : ∀ H', Same H H' → P v H') : EvP (tC v) σ H P := fun H1 e1 Q q => q v H1 (Same.refl _) (k H1 e1)
theorem evd_c {v : V} (k : Dp K H v d) : EvD K (tC v) σ H d := evp_c fun H' e => dp_same e k
theorem evd_int {i : Int} : EvD K (tC (.int i)) σ H (.int i) := evd_c (.int i)
theorem evv_c {v : V} : EvV (tC v) σ H v := evp_c fun _ _ => rfl
theorem evv_d {i : Int} (h : EvV te σ H (.int i)) : EvD K te σ H (.int i) := h.imp fun v H' _ e => by rw [e]; exact .int i
theorem evd_v {i : Int} (h : EvD K te σ H (.int i)) : EvV te σ H (.int i) := h.imp fun v H' _ e => dp_int e
theorem evp_op (ha : EvP ta σ H P1) (m1 : ∀ v H1 H2, Same H1 H2 → P1 v H1 → P1 v H2) (hb : EvP tb σ H P2) (k : ∀ x y H1, Same H H1 → P1 x H1 → P2 y H1 → ∀ Q : VK, (∀ v H2, Same H1 H2 → P v H2 → Q v H2) → r x y H1 Q) : EvP (tOp r ta tb) σ H P :=
  fun H1 e1 Q q => ha H1 e1 _ fun x H2 e2 p2 => hb H2 (e1.trans e2) _ fun y H3 e3 p3 => k x y H3 ((e1.trans e2).trans e3) (m1 _ _ _ e3 p2) p3 Q fun v H4 e4 p4 => q v H4 ((e2.trans e3).trans e4) p4
theorem evv_op {x y z : V} (ha : EvV ta σ H x) (hb : EvV tb σ H y) (k : ∀ H1, ∀ Q : VK, Q z H1 → r x y H1 Q) : EvV (tOp r ta tb) σ H z :=
  evp_op ha (fun _ _ _ _ h => h) hb fun x' y' H1 e1 p1 p2 Q q => by subst p1 p2; exact k H1 Q (q _ _ (Same.refl _) rfl)
theorem evv_I0 {g : Int → Int → V} {i j : Int} (ha : EvV ta σ H (.int i)) (hb : EvV tb σ H (.int j)) : EvV (tOp (rI0 g) ta tb) σ H (g i j) := evv_op ha hb fun H1 Q q => ⟨i, j, rfl, rfl, q⟩
theorem evv_I {C : Int → Int → Prop} {g : Int → Int → V} {i j : Int} (ha : EvV ta σ H (.int i)) (hb : EvV tb σ H (.int j)) (hc : C i j) : EvV (tOp (rI C g) ta tb) σ H (g i j) := evv_op ha hb fun H1 Q q => ⟨i, j, rfl, rfl, hc, q⟩
theorem evv_eq {x y : V} (ha : EvV ta σ H x) (hb : EvV tb σ H y) (hs : scal x y = true := by rfl) : EvV (tOp rEq ta tb) σ H (.bl (decide (x = y))) := evv_op ha hb fun H1 Q q => ⟨hs, q⟩
theorem evv_ne {x y : V} (ha : EvV ta σ H x) (hb : EvV tb σ H y) (hs : scal x y = true := by rfl) : EvV (tOp rNe ta tb) σ H (.bl (!decide (x = y))) := evv_op ha hb fun H1 Q q => ⟨hs, q⟩
theorem evv_un {f : V → Hp → VK → Prop} {x z : V} (ha : EvV ta σ H x) (k : ∀ H1, ∀ Q : VK, Q z H1 → f x H1 Q) : EvV (tUn f ta) σ H z :=
  fun H1 e1 Q q => ha H1 e1 _ fun x' H2 e2 p2 => by subst p2; exact k H2 Q (q _ _ e2 rfl)
theorem evv_U {g : Int → V} {i : Int} (ha : EvV ta σ H (.int i)) : EvV (tUn (rU g) ta) σ H (g i) := evv_un ha fun H1 Q q => ⟨i, rfl, q⟩
/-- tests -/
theorem evb_test {b : Bool} (h : EvV te σ H (.bl b)) : EvB (tTest te) σ H b := fun H1 e1 Q q => h H1 e1 _ fun v H2 e2 p => ⟨b, p, q H2 e2⟩
theorem evb_B {b : Bool} (h : EvV te σ H (.bl b)) : EvB (tB te) σ H b := fun H1 e1 Q q => h H1 e1 _ fun v H2 e2 p => ⟨b, p, q H2 e2⟩
theorem evb_and {t u : TT} {a b : Bool} (h1 : EvB t σ H a) (h2 : a = true → EvB u σ H b) : EvB (tAnd t u) σ H (a && b) := fun H1 e1 Q q => h1 H1 e1 _ fun H2 e2 => by
  cases a with
  | true => exact h2 rfl H2 (e1.trans e2) Q fun H3 e3 => q H3 (e2.trans e3)
  | false => exact q H2 e2
theorem evb_or {t u : TT} {a b : Bool} (h1 : EvB t σ H a) (h2 : a = false → EvB u σ H b) : EvB (tOr t u) σ H (a || b) := fun H1 e1 Q q => h1 H1 e1 _ fun H2 e2 => by
  cases a with
  | true => exact q H2 e2
  | false => exact h2 rfl H2 (e1.trans e2) Q fun H3 e3 => q H3 (e2.trans e3)
theorem evb_not {t : TT} {a : Bool} (h1 : EvB t σ H a) : EvB (tNot t) σ H (!a) := fun H1 e1 Q q => h1 H1 e1 _ fun H2 e2 => q H2 e2
theorem evb_yes : EvB tYes σ H true := fun H1 e1 Q q => q H1 (Same.refl _)
theorem EvB.is {t : TT} {a b : Bool} (h : EvB t σ H a) (e : a = b) : EvB t σ H b := e ▸ h
theorem EvP.vis {v w : V} (h : EvV te σ H v) (e : v = w) : EvV te σ H w := e ▸ h
theorem evv_andV {a b : Bool} (h1 : EvV ta σ H (.bl a)) (h2 : a = true → EvV tb σ H (.bl b)) : EvV (tAndV ta tb) σ H (.bl (a && b)) := fun H1 e1 Q q => h1 H1 e1 _ fun v H2 e2 p => ⟨a, p, by
  cases a with
  | true => exact h2 rfl H2 (e1.trans e2) Q fun v3 H3 e3 p3 => q _ H3 (e2.trans e3) (by simpa using p3)
  | false => exact q _ H2 e2 rfl⟩
theorem evv_orV {a b : Bool} (h1 : EvV ta σ H (.bl a)) (h2 : a = false → EvV tb σ H (.bl b)) : EvV (tOrV ta tb) σ H (.bl (a || b)) := fun H1 e1 Q q => h1 H1 e1 _ fun v H2 e2 p => ⟨a, p, by
  cases a with
  | true => exact q _ H2 e2 rfl
  | false => exact h2 rfl H2 (e1.trans e2) Q fun v3 H3 e3 p3 => q _ H3 (e2.trans e3) (by simpa using p3)⟩
theorem evv_notV {a : Bool} (h1 : EvV ta σ H (.bl a)) : EvV (tNotV ta) σ H (.bl (!a)) := fun H1 e1 Q q => h1 H1 e1 _ fun v H2 e2 p => ⟨a, p, q _ H2 e2 rfl⟩
theorem evp_if {t : TT} {b : Bool} (h : EvB t σ H b) (h1 : b = true → EvP ta σ H P) (h2 : b = false → EvP tb σ H P) : EvP (tIf t ta tb) σ H P := fun H1 e1 Q q => h H1 e1 _ fun H2 e2 => by
  cases b with
  | true => exact h1 rfl H2 (e1.trans e2) Q fun v H3 e3 p => q v H3 (e2.trans e3) p
  | false => exact h2 rfl H2 (e1.trans e2) Q fun v H3 e3 p => q v H3 (e2.trans e3) p
/-- argument lists -/
theorem eap_nil {PA : List V → Hp → Prop} (k : ∀ H', Same H H' → PA [] H') : EvAP tNil σ H PA := fun H1 e1 Q q => q [] H1 (Same.refl _) (k H1 e1)
theorem ead_nil : EvAD K tNil σ H [] := eap_nil fun _ _ => .nil
theorem eap_cons {PA : List V → Hp → Prop} (ha : EvP te σ H P1) (hr : ∀ v H1, Same H H1 → P1 v H1 → EvAP tr σ H1 fun vs H2 => PA (v :: vs) H2) : EvAP (tCons te tr) σ H PA :=
  fun H1 e1 Q q => ha H1 e1 _ fun v H2 e2 p2 => hr v H2 (e1.trans e2) p2 H2 (Same.refl _) _ fun vs H3 e3 p3 => q _ H3 (e2.trans e3) p3
theorem ead_cons (ha : EvD K te σ H d) (hr : EvAD K tr σ H ds) : EvAD K (tCons te tr) σ H (d :: ds) := eap_cons ha fun v H1 e1 p1 => fun H2 e2 Q q => hr H2 (e1.trans e2) Q fun vs H3 e3 p3 => q vs H3 e3 (.cons (dp_same (e2.trans e3) p1) p3)
theorem evd_tup (h : EvAD K tr σ H ds) (hl : ds.length ≤ sizeLine) : EvD K (tTup tr) σ H (.tuple ds) := fun H1 e1 Q q => h H1 e1 _ fun vs H2 e2 p2 => ⟨by rw [dpa_len p2]; exact hl, fun p np => by
  have s3 : Same H2 (upd H2 p (.tup vs)) := fun b o e => by rw [upd_ne (ne_of_none e np)]; exact e
  exact q _ _ (e2.trans s3) (.tup (.inl (.inl upd_same)) (dpa_same s3 p2))⟩
theorem same_new {p : Addr} {o : HO} (np : H p = none) : Same H (upd H p o) := fun b u e => by rw [upd_ne (ne_of_none e np)]; exact e
/-- what H does not know may be written -/
theorem same_mut {p : Addr} {o : HO} (e : Same H H') (np : H p = none) : Same H (upd H' p o) := fun b u eb => by rw [upd_ne (ne_of_none eb np)]; exact e _ _ eb
theorem evp_cb {rr : List V → Hp → VK → Prop} {PA : List V → Hp → Prop} (h : EvAP tr σ H PA) (k : ∀ vs H1, Same H H1 → PA vs H1 → ∀ Q : VK, (∀ v H2, Same H1 H2 → P v H2 → Q v H2) → rr vs H1 Q) : EvP (tCB rr tr) σ H P :=
  fun H1 e1 Q q => h H1 e1 _ fun vs H2 e2 p2 => k vs H2 (e1.trans e2) p2 Q fun v H3 e3 p3 => q v H3 (e2.trans e3) p3
theorem evp_call {sp : Sp} {dvs : List V} {E : XK} {PA : List V → Hp → Prop} (h : EvAP tr σ H PA) (k : ∀ vs H1, Same H H1 → PA vs H1 → ∀ Q : VK, (∀ v H2, Same H1 H2 → P v H2 → Q v H2) → sp (vs ++ dvs) H1 Q E) : EvP (tCall sp dvs E tr) σ H P :=
  fun H1 e1 Q q => h H1 e1 _ fun vs H2 e2 p2 => k vs H2 (e1.trans e2) p2 Q fun v H3 e3 p3 => q v H3 (e2.trans e3) p3
/-- a def on data -/
def spD (K : PySem.W.Frag) (dom : List PyData → PyData → Prop) : Sp := fun vs H Q _ => ∃ ds d, DpAll K H vs ds ∧ dom ds d ∧ ∀ v H', Same H H' → Dp K H' v d → Q v H'
theorem evd_call {dom : List PyData → PyData → Prop} {E : XK} (h : EvAD K tr σ H ds) (k : dom ds d) : EvD K (tCall (spD K dom) [] E tr) σ H d :=
  evp_call h fun vs H1 e1 p1 Q q => ⟨ds, d, by rw [List.append_nil]; exact p1, k, fun v H' e p => q v H' e p⟩
/-- tuple(list), tuple(tuple) -/
abbrev rTupOf (K : PySem.W.Frag) : List V → Hp → VK → Prop := fun xs H Q => ∃ p ys, xs = [.ref p] ∧ ((SqL K H p ys ∧ ∀ l, H l = none → Q (.ref l) (upd H l (.tup ys))) ∨ (SqT K H p ys ∧ Q (.ref p) H))
theorem evd_tupleL (h : EvD K te σ H (.list ds)) : EvD K (tCB (rTupOf K) (tCons te tNil)) σ H (.tuple ds) :=
  evp_cb (ead_cons h ead_nil) fun vs H1 e1 p1 Q q => by
    obtain ⟨v, rfl, p2⟩ := dpa_one p1
    obtain ⟨a, xs, rfl, p3, p4⟩ := dp_lst p2
    exact ⟨a, xs, rfl, .inl ⟨p3, fun l nl => q _ _ (same_new nl) (.tup (.inl (.inl upd_same)) (dpa_same (same_new nl) p4))⟩⟩
theorem evd_tupleT (h : EvD K te σ H (.tuple ds)) : EvD K (tCB (rTupOf K) (tCons te tNil)) σ H (.tuple ds) :=
  evp_cb (ead_cons h ead_nil) fun vs H1 e1 p1 Q q => by
    obtain ⟨v, rfl, p2⟩ := dpa_one p1
    obtain ⟨a, xs, rfl, p3, p4⟩ := dp_tup p2
    exact ⟨a, xs, rfl, .inr ⟨p3, q _ _ (Same.refl _) (.tup p3 p4)⟩⟩
/-- len -/
abbrev rLenS (K : PySem.W.Frag) : List V → Hp → VK → Prop := fun xs H Q => ∃ p ys, xs = [.ref p] ∧ (SqL K H p ys ∨ SqT K H p ys) ∧ Q (.int ys.length) H
theorem evv_lenL (h : EvD K te σ H (.list ds)) : EvV (tCB (rLenS K) (tCons te tNil)) σ H (.int ds.length) :=
  evp_cb (ead_cons h ead_nil) fun vs H1 e1 p1 Q q => by
    obtain ⟨v, rfl, p2⟩ := dpa_one p1
    obtain ⟨a, xs, rfl, p3, p4⟩ := dp_lst p2
    exact ⟨a, xs, rfl, .inl p3, q _ _ (Same.refl _) (by rw [dpa_len p4])⟩
theorem evv_lenT (h : EvD K te σ H (.tuple ds)) : EvV (tCB (rLenS K) (tCons te tNil)) σ H (.int ds.length) :=
  evp_cb (ead_cons h ead_nil) fun vs H1 e1 p1 Q q => by
    obtain ⟨v, rfl, p2⟩ := dpa_one p1
    obtain ⟨a, xs, rfl, p3, p4⟩ := dp_tup p2
    exact ⟨a, xs, rfl, .inr p3, q _ _ (Same.refl _) (by rw [dpa_len p4])⟩
/-- t + u -/
theorem evd_cat {es : List PyData} (ha : EvD K ta σ H (.tuple ds)) (hb : EvD K tb σ H (.tuple es)) (hl : ds.length + es.length ≤ sizeLine) : EvD K (tOp (rCatA K) ta tb) σ H (.tuple (ds ++ es)) :=
  evp_op ha (fun v H1 H2 e h => dp_same e h) hb fun x y H1 e1 p1 p2 Q q => by
    obtain ⟨a, xs, rfl, h1, h2⟩ := dp_tup p1
    obtain ⟨b, ys, rfl, h3, h4⟩ := dp_tup p2
    have l1 := dpa_len h2
    have l2 := dpa_len h4
    refine ⟨a, b, xs, ys, rfl, rfl, h1, h3, by omega, fun e => ?_, fun n e => ?_, fun n m p np => ?_⟩
    · subst e; cases h2; exact q _ _ (Same.refl _) (.tup h3 h4)
    · subst e; cases h4; exact q _ _ (Same.refl _) (.tup h1 (by rw [List.append_nil]; exact h2))
    · exact q _ _ (same_new np) (.tup (.inl (.inl upd_same)) (dpa_same (same_new np) (dpa_app h2 h4)))
/-- x[i] -/
theorem evd_ixT {i : Nat} (ha : EvD K ta σ H (.tuple ds)) (hb : EvV tb σ H (.int (i : Int))) (hd : ds[i]? = some d) : EvD K (tOp (rIxT K) ta tb) σ H d :=
  evp_op ha (fun v H1 H2 e h => dp_same e h) hb fun x y H1 e1 p1 p2 Q q => by
    obtain ⟨a, xs, rfl, p3, p4⟩ := dp_tup p1
    obtain ⟨v, hv, pv⟩ := dpa_at p4 hd
    exact ⟨a, xs, (i : Int), v, rfl, p2, p3, atI_nat hv, q _ _ (Same.refl _) pv⟩
theorem evd_ixL {i : Nat} (ha : EvD K ta σ H (.list ds)) (hb : EvV tb σ H (.int (i : Int))) (hd : ds[i]? = some d) : EvD K (tOp (rIxL K) ta tb) σ H d :=
  evp_op ha (fun v H1 H2 e h => dp_same e h) hb fun x y H1 e1 p1 p2 Q q => by
    obtain ⟨a, xs, rfl, p3, p4⟩ := dp_lst p1
    obtain ⟨v, hv, pv⟩ := dpa_at p4 hd
    exact ⟨a, xs, (i : Int), v, rfl, p2, p3, atI_nat hv, q _ _ (Same.refl _) pv⟩
/-- an attribute -/
theorem evp_fld {f : Str} (h : EvP te σ H fun v H' => ∃ a C dx fs x, v = .ref a ∧ H' a = some (.ins C dx fs) ∧ Cls K C ∧ NoAttr K C f ∧ fs.lookup f = some x ∧ P x H') : EvP (tFld K te f) σ H P :=
  fun H1 e1 Q q => h H1 e1 _ fun v H2 e2 ⟨a, C, dx, fs, x, ev, g, c, n, l, p⟩ => ⟨a, C, dx, fs, x, ev, g, c, n, l, q x H2 e2 p⟩
end
/-! ### what is walked: the items of l, each as Yp says -/
structure WalkL {α : Type} (J : It) (l : List α) (H2 : Hp) (Yp : α → V → Hp → Prop) (G : Hp → Prop) (Y : Nat → Hp → V → Hp → Prop) : Prop where
  w : Walk J l.length G Y
  g : ∀ H3, Same H2 H3 → G H3
  y : ∀ i a H3 x H4, l[i]? = some a → Same H2 H3 → Y i H3 x H4 → Same H3 H4 ∧ Yp a x H4
def Src {α : Type} (wi : TI) (σ : L2.St) (H : Hp) (l : List α) (Yp : α → V → Hp → Prop) : Prop := ∀ H1, Same H H1 → ∀ R : It → Hp → Prop,
  (∀ J H2, Same H1 H2 → (∃ G Y, WalkL J l H2 Yp G Y) → R J H2) → wi σ H1 R
section
variable {K : PySem.W.Frag} {σ : L2.St} {H H' : Hp} {ta tb te : TE} {tr : TA} {d : PyData} {ds : List PyData}
theorem walkL_list {a : Addr} {xs : List V} (p3 : SqL K H a xs) (p4 : DpAll K H xs ds) : WalkL (Itl K a) ds H (fun d x H' => Dp K H' x d) (fun H' => SqL K H' a xs) (YAt xs) where
  w := dpa_len p4 ▸ walk_list (K := K) (a := a) (xs := xs)
  g := fun H3 e3 => sql_same e3 p3
  y := fun i d H3 x H4 hd e3 y => by
    obtain ⟨rfl, hx⟩ := y
    obtain ⟨d', hd', pd⟩ := dpa_get p4 hx
    rw [hd] at hd'; cases hd'
    exact ⟨Same.refl _, dp_same e3 pd⟩
theorem walkL_tup {a : Addr} {xs : List V} (p3 : SqT K H a xs) (p4 : DpAll K H xs ds) : WalkL (Itt K a) ds H (fun d x H' => Dp K H' x d) (fun H' => SqT K H' a xs) (YAt xs) where
  w := dpa_len p4 ▸ walk_tup (K := K) (a := a) (xs := xs)
  g := fun H3 e3 => sqt_same e3 p3
  y := fun i d H3 x H4 hd e3 y => by
    obtain ⟨rfl, hx⟩ := y
    obtain ⟨d', hd', pd⟩ := dpa_get p4 hx
    rw [hd] at hd'; cases hd'
    exact ⟨Same.refl _, dp_same e3 pd⟩
theorem WalkL.map {α β : Type} {J : It} {l : List α} {f : α → β} {Yp : β → V → Hp → Prop} {G : Hp → Prop} {Y : Nat → Hp → V → Hp → Prop} (h : WalkL J (l.map f) H Yp G Y) : WalkL J l H (fun a => Yp (f a)) G Y where
  w := by have := h.w; rwa [List.length_map] at this
  g := h.g
  y := fun i a H3 x H4 ha e y => h.y i (f a) H3 x H4 (by rw [List.getElem?_map, ha]; rfl) e y
theorem Src.map {α β : Type} {wi : TI} {l : List α} {f : α → β} {Yp : β → V → Hp → Prop} (h : Src wi σ H (l.map f) Yp) : Src wi σ H l (fun a => Yp (f a)) :=
  fun H1 e1 R k => h H1 e1 R fun J H2 e2 ⟨G, Y, w⟩ => k J H2 e2 ⟨G, Y, w.map⟩
theorem src_list (h : EvD K te σ H (.list ds)) : Src (iList K te) σ H ds fun d x H' => Dp K H' x d := fun H1 e1 R k => h H1 e1 _ fun v H2 e2 p2 => by
  obtain ⟨a, xs, rfl, p3, p4⟩ := dp_lst p2
  exact ⟨a, rfl, ⟨xs, p3⟩, k _ _ e2 ⟨_, _, walkL_list p3 p4⟩⟩
theorem src_tup (h : EvD K te σ H (.tuple ds)) : Src (iTup K te) σ H ds fun d x H' => Dp K H' x d := fun H1 e1 R k => h H1 e1 _ fun v H2 e2 p2 => by
  obtain ⟨a, xs, rfl, p3, p4⟩ := dp_tup p2
  exact ⟨a, rfl, ⟨xs, p3⟩, k _ _ e2 ⟨_, _, walkL_tup p3 p4⟩⟩
theorem walkL_range {lo : Int} {n : Nat} : WalkL (Itr lo n) (List.range n) H (fun i x _ => x = .int (lo + (i : Int))) (fun _ => True) (YFn fun i => .int (lo + i)) where
  w := by rw [List.length_range]; exact walk_range
  g := fun _ _ => True.intro
  y := fun i a H3 x H4 ha e y => by
    obtain ⟨rfl, rfl⟩ := y
    have : i = a := by
      have hi : i < n := by simpa using (List.getElem?_eq_some_iff.mp ha).1
      rw [List.getElem?_range hi] at ha; exact Option.some.inj ha
    subst this
    exact ⟨Same.refl _, rfl⟩
theorem src_range1 {n : Nat} (h : EvV te σ H (.int (n : Int))) (hn : n < 2 ^ 62) : Src (iRng1 (tCons te tNil)) σ H (List.range n) fun i x _ => x = .int (i : Int) := fun H1 e1 R k => h H1 e1 _ fun v H2 e2 p2 => by
  subst p2
  have W : WalkL (Itr 0 n) (List.range n) H2 (fun i x _ => x = V.int (i : Int)) (fun _ => True) (YFn fun i => .int (0 + i)) :=
    ⟨(walkL_range (lo := 0) (n := n) (H := H2)).w, fun _ _ => True.intro, fun i a H3 x H4 ha e y => by
      have := (walkL_range (lo := 0) (n := n) (H := H2)).y i a H3 x H4 ha e y
      simpa using this⟩
  exact ⟨(n : Int), rfl, by omega, by omega, k _ _ e2 ⟨_, _, W⟩⟩
theorem src_range2 {lo hi : Int} {n : Nat} (h1 : EvV ta σ H (.int lo)) (h2 : EvV tb σ H (.int hi)) (hb : -(2 ^ 62) ≤ lo ∧ lo < 2 ^ 62 ∧ -(2 ^ 62) ≤ hi ∧ hi < 2 ^ 62) (hn : (hi - lo).toNat = n) : Src (iRng2 (tCons ta (tCons tb tNil))) σ H (List.range n) fun i x _ => x = .int (lo + (i : Int)) := fun H1 e1 R k =>
  h1 H1 e1 _ fun v H2 e2 p2 => h2 H2 (e1.trans e2) _ fun u H3 e3 p3 => by
  subst p2 p3 hn
  exact ⟨lo, hi, rfl, hb, k _ _ (e2.trans e3) ⟨_, _, walkL_range⟩⟩
end
/-! ### comprehensions -/
theorem pmap {α β : Type} {F G : α → β → Prop} {l : List α} {m : List β} (h : Paired F l m) (k : ∀ a b, F a b → G a b) : Paired G l m := by
  induction h with
  | nil => exact .nil
  | cons a t ih => exact .cons (k _ _ a) ih
theorem take_next {α : Type} {l : List α} {i : Nat} {x : α} (h : l[i]? = some x) : l.take (i + 1) = l.take i ++ [x] := by
  rw [List.take_add_one, h]; rfl
section
variable {α : Type} {σ : L2.St} {H : Hp} {wi : TI} {g : TG} {tt : TT} {te : TE} {vs : List Nat} {l : List α} {Yp : α → V → Hp → Prop}
theorem lc_run {J : It} {G : Hp → Prop} {Y : Nat → Hp → V → Hp → Prop} {H2 : Hp} {D : Addr} {Qd : Hp → Prop} (w : WalkL J l H2 Yp G Y) (nD : H2 D = none)
    (hn : l.length < sizeLine) (f : α → Bool) (P : α → V → Hp → Prop) (mono : ∀ i v H1 H2, SameT H1 H2 → P i v H1 → P i v H2)
    (body : ∀ a x H', a ∈ l → Same H2 H' → Yp a x H' → ∀ R : L2.St → Hp → Prop, (∀ σ2, wipe σ2 vs = wipe σ vs → EvB tt σ2 H' (f a) → (f a = true → EvP te σ2 H' (P a)) → R σ2 H') → g x (wipe σ vs) H' R)
    (q : ∀ H' xs, Same H2 H' → H' D = some (.lst xs) → Paired (fun a v => P a v H') (l.filter f) xs → Qd H') :
    ∃ W : Nat → Nat → Hp → Prop, (∃ m, W 0 m (upd H2 D (.lst []))) ∧ ∀ i m H, W i m H →
      (J.stop i H ∧ Qd H) ∨ (J.go i H ∧ ∃ Nx : Hp → Prop, (∀ H', Nx H' → ∃ m', m' < m ∧ W (i + 1) m' H') ∧ ∀ x H', J.yld i H x H' → g x (wipe σ vs) H' fun σ2 H2 => wipe σ2 vs = wipe σ vs ∧ tt σ2 H2 fun b H3 =>
        if b = true then te σ2 H3 fun y H4 => ∃ acc, H4 D = some (.lst acc) ∧ acc.length < sizeLine ∧ Nx (upd H4 D (.lst (acc ++ [y]))) else Nx H3) := by
  refine lc_it w.w (Pv := fun i H' => Same H2 H' ∧ ∃ xs, H' D = some (.lst xs) ∧ Paired (fun a v => P a v H') ((l.take i).filter f) xs) ⟨same_new nD, [], upd_same, .nil⟩ (fun i H' _ p => w.g _ p.1) (fun i x H' H'' hi p y => ?_) (fun H' p => ?_)
  · obtain ⟨sm, xs, hD, pr⟩ := p
    have ha : l[i]? = some l[i] := List.getElem?_eq_getElem hi
    obtain ⟨e4, yp⟩ := w.y i l[i] H' x H'' ha sm y
    have hD'' : H'' D = some (.lst xs) := e4 _ _ hD
    have lx : xs.length = ((l.take i).filter f).length := (Paired.length pr).symm
    have lx2 : xs.length ≤ i := by rw [lx]; exact Nat.le_trans (List.length_filter_le _ _) (by simp; omega)
    refine body l[i] x H'' (List.getElem_mem hi) (sm.trans e4) yp _ fun σ2 hw hb he => ⟨hw, hb.go fun H3 e5 => ?_⟩
    by_cases hf : f l[i] = true
    · rw [hf, if_pos rfl]
      refine (he hf).up e5 |>.go fun v H4 e6 pv => ⟨xs, e6 _ _ (e5 _ _ hD''), by omega, ?_, xs ++ [v], upd_same, ?_⟩
      · exact same_mut (((sm.trans e4).trans e5).trans e6) nD
      · rw [take_next ha, List.filter_append, List.filter_cons_of_pos hf]
        have sl : SameT H4 (upd H4 D (.lst (xs ++ [v]))) := .lst (e6 _ _ (e5 _ _ hD''))
        exact Paired.snoc (pmap pr fun j u h => mono _ _ _ _ ((SameT.of ((e4.trans e5).trans e6)).trans sl) h) (mono _ _ _ _ sl pv)
    · have hf' : f l[i] = false := by simpa using hf
      rw [hf', if_neg Bool.false_ne_true]
      refine ⟨(sm.trans e4).trans e5, xs, e5 _ _ hD'', ?_⟩
      rw [take_next ha, List.filter_append, List.filter_cons_of_neg hf, List.filter_nil, List.append_nil]
      exact pmap pr fun j u h => mono _ _ _ _ (SameT.of (e4.trans e5)) h
  · obtain ⟨sm, xs, hD, pr⟩ := p
    rw [List.take_length] at pr
    exact q _ _ sm hD pr
theorem evp_lc (S : Src wi σ H l Yp) (hn : l.length < sizeLine) (f : α → Bool) (P : α → V → Hp → Prop) (mono : ∀ i v H1 H2, SameT H1 H2 → P i v H1 → P i v H2)
    (body : ∀ a x H', a ∈ l → Same H H' → Yp a x H' → ∀ R : L2.St → Hp → Prop, (∀ σ2, wipe σ2 vs = wipe σ vs → EvB tt σ2 H' (f a) → (f a = true → EvP te σ2 H' (P a)) → R σ2 H') → g x (wipe σ vs) H' R) :
    EvP (tLc wi g tt te vs) σ H fun v H' => ∃ D xs, v = .ref D ∧ H D = none ∧ H' D = some (.lst xs) ∧ Paired (fun a v => P a v H') (l.filter f) xs := by
  intro H1 e1 Q q
  refine S H1 e1 _ fun J H2 e2 ⟨G, Y, w⟩ D nD => ?_
  have nD0 : H D = none := (e1.trans e2).free nD
  exact lc_run w nD hn f P mono (fun a x H' ha e y => body a x H' ha ((e1.trans e2).trans e) y) fun H' xs sm hD pr => q _ _ (e2.trans sm) ⟨D, xs, rfl, nD0, hD, pr⟩
theorem dpa_paired {K : PySem.W.Frag} {d : α → PyData} {m : List α} {xs : List V} (pr : Paired (fun a v => Dp K H v (d a)) m xs) : DpAll K H xs (m.map d) := by
  induction pr with
  | nil => exact .nil
  | cons a t ih => exact .cons a ih
/-- .. of data without lists; the list is new -/
theorem evd_lcN {K : PySem.W.Frag} (S : Src wi σ H l Yp) (hn : l.length < sizeLine) (f : α → Bool) (d : α → PyData) (hd : ∀ a, noL (d a) = true)
    (body : ∀ a x H', a ∈ l → Same H H' → Yp a x H' → ∀ R : L2.St → Hp → Prop, (∀ σ2, wipe σ2 vs = wipe σ vs → EvB tt σ2 H' (f a) → (f a = true → EvD K te σ2 H' (d a)) → R σ2 H') → g x (wipe σ vs) H' R) :
    EvP (tLc wi g tt te vs) σ H fun v H' => ∃ D xs, v = .ref D ∧ H D = none ∧ H' D = some (.lst xs) ∧ DpAll K H' xs ((l.filter f).map d) :=
  (evp_lc S hn f (fun a v H' => Dp K H' v (d a)) (fun a v H1 H2 e h => dp_sameT e (hd a) h) body).imp fun v H' e ⟨D, xs, ev, nD, hD, pr⟩ => ⟨D, xs, ev, nD, hD, dpa_paired pr⟩
theorem evd_lc {K : PySem.W.Frag} (S : Src wi σ H l Yp) (hn : l.length < sizeLine) (f : α → Bool) (d : α → PyData) (hd : ∀ a, noL (d a) = true)
    (body : ∀ a x H', a ∈ l → Same H H' → Yp a x H' → ∀ R : L2.St → Hp → Prop, (∀ σ2, wipe σ2 vs = wipe σ vs → EvB tt σ2 H' (f a) → (f a = true → EvD K te σ2 H' (d a)) → R σ2 H') → g x (wipe σ vs) H' R) :
    EvD K (tLc wi g tt te vs) σ H (.list ((l.filter f).map d)) :=
  (evd_lcN S hn f d hd body).imp fun v H' e ⟨D, xs, ev, nD, hD, pr⟩ => by subst ev; exact .lst (.inl (.inl hD)) pr
/-- every turn gives -/
theorem evd_lcA {K : PySem.W.Frag} (S : Src wi σ H l Yp) (hn : l.length < sizeLine) (d : α → PyData) (hd : ∀ a, noL (d a) = true)
    (body : ∀ a x H', a ∈ l → Same H H' → Yp a x H' → ∀ R : L2.St → Hp → Prop, (∀ σ2, wipe σ2 vs = wipe σ vs → EvD K te σ2 H' (d a) → R σ2 H') → g x (wipe σ vs) H' R) :
    EvD K (tLc wi g tYes te vs) σ H (.list (l.map d)) :=
  (evd_lc S hn (fun _ => true) d hd fun a x H' ha e y R k => body a x H' ha e y R fun σ2 hw he => k σ2 hw evb_yes fun _ => he).imp fun v H' e p => by
    rw [List.filter_eq_self.mpr fun _ _ => rfl] at p; exact p
/-- .. in the list's own order; its list is new -/
theorem evd_lcAN {K : PySem.W.Frag} (S : Src wi σ H l Yp) (hn : l.length < sizeLine) (d : α → PyData) (hd : ∀ a, noL (d a) = true)
    (body : ∀ a x H', a ∈ l → Same H H' → Yp a x H' → ∀ R : L2.St → Hp → Prop, (∀ σ2, wipe σ2 vs = wipe σ vs → EvD K te σ2 H' (d a) → R σ2 H') → g x (wipe σ vs) H' R) :
    EvP (tLc wi g tYes te vs) σ H fun v H' => ∃ D xs, v = .ref D ∧ H D = none ∧ H' D = some (.lst xs) ∧ DpAll K H' xs (l.map d) :=
  (evd_lcN S hn (fun _ => true) d hd fun a x H' ha e y R k => body a x H' ha e y R fun σ2 hw he => k σ2 hw evb_yes fun _ => he).imp fun v H' e p => by
    rw [List.filter_eq_self.mpr fun _ _ => rfl] at p; exact p
end
/-! ### loops -/
theorem for_run {α : Type} {J : It} {l : List α} {Hb : Hp} {Yp : α → V → Hp → Prop} {G : Hp → Prop} {Y : Nat → Hp → V → Hp → Prop} (w : WalkL J l Hb Yp G Y) {g : TG} {tb : TS} {D : Ends} {σ : L2.St} {H : Hp} (Pv : Nat → L2.St → Hp → Prop) (h0 : Pv 0 σ H) (hb : ∀ i σ' H', Pv i σ' H' → Same Hb H')
    (hs : ∀ i a x σ' H' H'', l[i]? = some a → Pv i σ' H' → Same H' H'' → Yp a x H'' → g x σ' H'' fun σ2 H2 => tb { D with nx := Pv (i + 1), ct := Pv (i + 1), bk := D.nx } σ2 H2) (hd : ∀ σ' H', Pv l.length σ' H' → D.nx σ' H') :
    ∃ W : Nat → Nat → L2.St → Hp → Prop, (∃ m, W 0 m σ H) ∧ ∀ i m σ H, W i m σ H →
      (J.stop i H ∧ D.nx σ H) ∨ (J.go i H ∧ ∃ N : L2.St → Hp → Prop, (∀ σ' H', N σ' H' → ∃ m', m' < m ∧ W (i + 1) m' σ' H') ∧ ∀ x H', J.yld i H x H' → g x σ H' fun σ2 H2 => tb { D with nx := N, ct := N, bk := D.nx } σ2 H2) :=
  for_it w.w Pv h0 (fun i σ' H' _ p => w.g _ (hb _ _ _ p)) (fun i x σ' H' H'' hi p y => by
    obtain ⟨e, yp⟩ := w.y i l[i] H' x H'' (List.getElem?_eq_getElem hi) (hb _ _ _ p) y
    exact hs i l[i] x σ' H' H'' (List.getElem?_eq_getElem hi) p e yp) hd
end SFW

set_option maxRecDepth 100000
set_option maxHeartbeats 4000000
/-! # dict(zip(list, tuple)), sum of a tuple, a tuple times one or more, {(): v} -/
namespace PySem
section
variable {prog : Program} {w : World} {A : Around} {E : Value → Shared → Prop} {s : Shared} {z TI TO T i1 i2 : Addr} {fp1 fp2 : List Addr} {n1 n2 i : Nat} {P1 P2 : Nat → Value → Prop} {St1 St2 : Nat → Heap → Prop} {f : Bool} {oT : Obj}
theorem zipH_next_item {Q : Value → Shared → Prop} (S : ZipSep2 z TI TO i1 i2 fp1 fp2) (D1 : Draws prog w A i1 fp1 n1 P1 St1) (D2 : Draws prog w A i2 fp2 n2 P2 St2)
    (hz : IsZipHeld s.heap z TI TO T f) (hT : s.heap.get? T = some oT) (hTI : IsPair s.heap TI (.ref i1) (.ref i2)) (st1 : St1 i s.heap) (st2 : St2 i s.heap) (hlt1 : i < n1) (hlt2 : i < n2)
    (hQ : ∀ x y h' tk, P1 i x → P2 i y → IsZipHeld h' z TI TO T true → St1 (i + 1) h' → St2 (i + 1) h' → IsPair h' s.heap.objs.size x y → h'.objs.size = s.heap.objs.size + 1 →
      (∀ c o, c ≠ z → c ≠ i1 → c ≠ i2 → s.heap.get? c = some o → h'.get? c = some o) → Q (.ref s.heap.objs.size) { s with heap := h', toks := tk }) :
    wpAny (model prog w) A (Builtin.«zip.__next__» ⟨[.ref z], []⟩) (fun fin s' => ∃ v, fin = .done (.ret v) ∧ Q v s') E s := by
  obtain ⟨hp, g, d, tk0, os⟩ := s
  show wpAny _ _ (field (.ref z) 2 >>= _) _ _ _
  refine wpAny_bind (wpAny_field hz rfl (x := .bool false) rfl ?_)
  show wpAny _ _ (field (.ref z) 3 >>= _) _ _ _
  refine wpAny_bind (wpAny_field hz rfl (x := .ref TI) rfl ?_)
  refine wpAny_bind (wpAny_seqItems hTI rfl ?_)
  show wpAny _ _ (Builtin.SmallTypes.ownedTupleIsFree (.ref z) >>= _) _ _ _
  refine wpAny_bind (wpAny_tupleHeld_zip hz hT fun h₁ hz₁ hs₁ => ?_)
  replace hs₁ : Heap.SameBut z hp h₁ := hs₁
  replace hz₁ : IsZipHeld h₁ z TI TO T true := hz₁
  simp only [Bool.false_eq_true, if_false]
  refine wpAny_bind ?_
  rw [← Array.forIn_toList]
  simp only [List.forIn_cons, List.forIn_nil]
  refine wpAny_bind (wpAny_bind (wpAny_holding ?_))
  show wpAny _ _ (Builtin.SmallTypes.nextOf (.ref i1) >>= _) _ _ ⟨h₁, g, d, tk0, os⟩
  refine wpAny_bind (D1.item i _ _ _ hlt1 (D1.over st1 hs₁ S.zf1) fun x1 h₂ tk1 hx1 sn1 hs₂ => wpAny_pure ?_)
  replace hs₂ : Heap.SameBut i1 h₁ h₂ := hs₂
  refine wpAny_pure ?_
  refine wpAny_bind (wpAny_bind (wpAny_holding ?_))
  show wpAny _ _ (Builtin.SmallTypes.nextOf (.ref i2) >>= _) _ _ ⟨h₂, g, d, tk1, os⟩
  refine wpAny_bind (D2.item i _ _ _ hlt2 (D2.over (D2.over st2 hs₁ S.zf2) hs₂ S.sep1_2) fun x2 h₃ tk2 hx2 sn2 hs₃ => wpAny_pure ?_)
  replace hs₃ : Heap.SameBut i2 h₂ h₃ := hs₃
  refine wpAny_pure (wpAny_pure ?_)
  show wpAny _ _ (newTuple [x1, x2] >>= _) _ _ ⟨h₃, g, d, tk2, os⟩
  refine wpAny_bind (wpAny_newTuple ?_)
  have hsz : h₃.objs.size = hp.objs.size := by rw [hs₃.1, hs₂.1, hs₁.1]
  have hz₃ : IsZipHeld h₃ z TI TO T true := hs₃.extBut _ _ S.zi2 (hs₂.extBut _ _ S.zi1 hz₁)
  have hk : ∀ c o, c ≠ z → c ≠ i1 → c ≠ i2 → hp.get? c = some o → h₃.get? c = some o := fun c o c1 c2 c3 e => hs₃.extBut _ _ c3 (hs₂.extBut _ _ c2 (hs₁.extBut _ _ c1 e))
  have h1₃ : St1 (i + 1) h₃ := D1.over sn1 hs₃ S.sep2_1
  refine wpAny_pure ⟨_, rfl, ?_⟩
  show Q (.ref h₃.objs.size) _
  have hp' : IsPair (h₃.push { cls := .type "tuple", data := .seq #[x1, x2] }) h₃.objs.size x1 x2 := Heap.get?_push_size _ rfl
  have hz4 : (h₃.push { cls := .type "tuple", data := .seq #[x1, x2] }).objs.size = h₃.objs.size + 1 := Heap.size_push ..
  rw [hsz] at hp' hz4 ⊢
  exact hQ x1 x2 _ tk2 hx1 hx2 (Heap.get?_push_of_some _ hz₃) (D1.frame _ _ _ h1₃ fun b _ o e => Heap.get?_push_of_some _ e) (D2.frame _ _ _ sn2 fun b _ o e => Heap.get?_push_of_some _ e) hp' hz4 fun c o c1 c2 c3 e => Heap.get?_push_of_some _ (hk c o c1 c2 c3 e)
theorem zipH_next_end {Q : Fin → Shared → Prop} (S : ZipSep2 z TI TO i1 i2 fp1 fp2) (D1 : Draws prog w A i1 fp1 n1 P1 St1) 
    (hz : IsZipHeld s.heap z TI TO T f) (hT : s.heap.get? T = some oT) (hTI : IsPair s.heap TI (.ref i1) (.ref i2)) (st1 : St1 n1 s.heap)
    (hE : ∀ h' e, (∀ c o, c ≠ z → c ≠ i1 → c ≠ i2 → s.heap.get? c = some o → h'.get? c = some o) → (∃ o, h'.get? e = some o ∧ o.cls = .type "StopIteration") → E (.ref e) { s with heap := h' }) :
    wpAny (model prog w) A (Builtin.«zip.__next__» ⟨[.ref z], []⟩) Q E s := by
  show wpAny _ _ (field (.ref z) 2 >>= _) _ _ _
  refine wpAny_bind (wpAny_field hz rfl (x := .bool false) rfl ?_)
  show wpAny _ _ (field (.ref z) 3 >>= _) _ _ _
  refine wpAny_bind (wpAny_field hz rfl (x := .ref TI) rfl ?_)
  refine wpAny_bind (wpAny_seqItems hTI rfl ?_)
  show wpAny _ _ (Builtin.SmallTypes.ownedTupleIsFree (.ref z) >>= _) _ _ _
  refine wpAny_bind (wpAny_tupleHeld_zip hz hT fun h₁ hz₁ hs₁ => ?_)
  simp only [Bool.false_eq_true, if_false]
  refine wpAny_bind ?_
  rw [← Array.forIn_toList]
  simp only [List.forIn_cons, List.forIn_nil]
  refine wpAny_bind (wpAny_bind (wpAny_holding ?_))
  show wpAny _ _ (Builtin.SmallTypes.nextOf (.ref i1) >>= _) _ _ _
  exact wpAny_bind (D1.done { s with heap := h₁ } _ _ (D1.over st1 hs₁ S.zf1) fun h₂ e hs₂ he => hE h₂ e (fun c o c1 c2 _ x => hs₂ _ _ c2 (hs₁.extBut _ _ c1 x)) he)
theorem pyNext_zipH_item {Q : Option Value → Shared → Prop} (S : ZipSep2 z TI TO i1 i2 fp1 fp2) (D1 : Draws prog w A.in1 i1 fp1 n1 P1 St1) (D2 : Draws prog w A.in1 i2 fp2 n2 P2 St2)
    (hz : IsZipHeld s.heap z TI TO T f) (hT : s.heap.get? T = some oT) (hTI : IsPair s.heap TI (.ref i1) (.ref i2)) (st1 : St1 i s.heap) (st2 : St2 i s.heap) (hlt1 : i < n1) (hlt2 : i < n2)
    (hQ : ∀ x y h' tk, P1 i x → P2 i y → IsZipHeld h' z TI TO T true → St1 (i + 1) h' → St2 (i + 1) h' → IsPair h' s.heap.objs.size x y → h'.objs.size = s.heap.objs.size + 1 →
      (∀ c o, c ≠ z → c ≠ i1 → c ≠ i2 → s.heap.get? c = some o → h'.get? c = some o) → Q (some (.ref s.heap.objs.size)) { s with heap := h', toks := tk }) :
    wpAny (model prog w) A (pyNext (.ref z)) Q E s := by
  have hTy : s.TypeIs (.ref z) "zip" := ⟨_, hz, rfl⟩
  unfold pyNext
  exact wpAny_bind (wpAny_attempt (wpAny_callSpecial?_slot (name := Str.ofString "__next__") hTy F.slot_zip_next
    (wpAny_call_entry F.slot_zip_next hTy F.entry_zip_next
      (zipH_next_item S D1 D2 hz hT hTI st1 st2 hlt1 hlt2 fun x y h' tk y1 y2 a1 a3 a4 a5 a6 a7 => wpAny_pure (hQ x y h' tk y1 y2 a1 a3 a4 a5 a6 a7)) (F.args_zip_next_1 _))))
theorem pyNext_zipH_end {Q : Option Value → Shared → Prop} (S : ZipSep2 z TI TO i1 i2 fp1 fp2) (D1 : Draws prog w A.in1 i1 fp1 n1 P1 St1)
    (hz : IsZipHeld s.heap z TI TO T f) (hT : s.heap.get? T = some oT) (hTI : IsPair s.heap TI (.ref i1) (.ref i2)) (st1 : St1 n1 s.heap)
    (hQ : ∀ h', (∀ c o, c ≠ z → c ≠ i1 → c ≠ i2 → s.heap.get? c = some o → h'.get? c = some o) → Q none { s with heap := h' }) : wpAny (model prog w) A (pyNext (.ref z)) Q E s := by
  have hTy : s.TypeIs (.ref z) "zip" := ⟨_, hz, rfl⟩
  unfold pyNext
  refine wpAny_bind (wpAny_attempt (wpAny_callSpecial?_slot (name := Str.ofString "__next__") hTy F.slot_zip_next
    (wpAny_call_entry F.slot_zip_next hTy F.entry_zip_next (zipH_next_end S D1 hz hT hTI st1 fun h' e hk he => ?_) (F.args_zip_next_1 _))))
  obtain ⟨o, ho, hc⟩ := he
  refine wpAny_bind (wpAny_isInstance (T := "StopIteration") (b := true) ⟨o, ho, hc⟩ isSubtype_stop ?_)
  exact wpAny_pure (hQ _ hk)
end
section
variable {prog : Program} {w : World}
/-- zip of a list and a tuple of one length, as an argument of dict() -/
theorem PairArg.zipLT (z TI TO i1 i2 l1 l2 : Addr) (S : ZipSep2 z TI TO i1 i2 [i1, l1] [i2, l2]) (n1 : l1 ≠ i1) (n2 : l2 ≠ i2) (xs ys : Array Value) (hl : ys.size = xs.size) :
    PairArg prog w "zip" z [z, TI, TO, i1, i2, l1, l2] [z, TO, i1, i2] xs.size (fun i k v => xs[i]? = some k ∧ ys[i]? = some v)
      (fun h => IsZip h z TI TO .none ∧ IsPair h TI (.ref i1) (.ref i2) ∧ (∃ a b, IsPair h TO a b) ∧ h.IsListIter i1 l1 0 ∧ h.IsTupleIter i2 l2 0 ∧ h.IsList l1 xs ∧ h.IsTuple l2 ys) where
  type := fun s ok => ⟨_, ok.1, rfl⟩
  notDict := by decide
  keep := fun h h' ok hk => by
    obtain ⟨hz, hTI, ⟨a, b, hTO⟩, h1, h2, hl1, hl2⟩ := ok
    exact ⟨hk _ _ hz, hk _ _ hTI, ⟨a, b, hk _ _ hTO⟩, h1.at fun o e => hk _ o e, h2.at fun o e => hk _ o e, hl1.at fun o e => hk _ o e, hl2.at fun o e => hk _ o e⟩
  there := fun h ok b hb => by
    obtain ⟨hz, hTI, ⟨a, c, hTO⟩, ⟨o1, h1, _⟩, ⟨o2, h2, _⟩, ⟨o3, hl1, _⟩, ⟨o4, hl2, _⟩⟩ := ok
    simp only [List.mem_cons, List.not_mem_nil, or_false] at hb
    rcases hb with rfl | rfl | rfl | rfl | rfl | rfl | rfl
    all_goals first | exact ⟨_, hz⟩ | exact ⟨_, hTI⟩ | exact ⟨_, hTO⟩ | exact ⟨_, h1⟩ | exact ⟨_, h2⟩ | exact ⟨_, hl1⟩ | exact ⟨_, hl2⟩
  sub := fun b hb => by simp at hb ⊢; rcases hb with rfl | rfl | rfl | rfl <;> simp
  noKeys := fun A s Q E hA ok h => getAttrOr_miss_zip ok.1 rfl rfl rfl zip_no_keys (by decide +kernel) hA h
  iter := fun A s d Q E hA ok hd hdf h => by
    obtain ⟨hz, hTI, ⟨a, b, hTO⟩, h1, h2, hl1, hl2⟩ := ok
    simp only [List.mem_cons, List.not_mem_nil, or_false, not_or] at hdf
    obtain ⟨dz, dTI, dTO, di1, di2, dl1, dl2⟩ := hdf
    have D1 := Draws.list (prog := prog) (w := w) (A := A.in1) hA i1 l1 n1 xs
    have D2 := Draws.tuple (prog := prog) (w := w) (A := A.in1) hA i2 l2 n2 ys
    refine wpAny_pyIter_zip hz (h z [z, TO, i1, i2] (fun i h => IsPair h TI (.ref i1) (.ref i2) ∧ (h.IsListIter i1 l1 i ∧ h.IsList l1 xs) ∧ (h.IsTupleIter i2 l2 i ∧ h.IsTuple l2 ys) ∧
      ((IsZip h z TI TO .none ∧ ∃ a b, IsPair h TO a b) ∨ ∃ T f oT, IsZipHeld h z TI TO T f ∧ h.get? T = some oT ∧ T ≠ z ∧ T ≠ i1 ∧ T ≠ i2 ∧ T ≠ d)) s.heap s.toks ?_
      ⟨hTI, ⟨h1, hl1⟩, ⟨h2, hl2⟩, .inl ⟨hz, a, b, hTO⟩⟩ (fun _ _ e => e) fun b hb => .inl hb)
    exact {
      off := fun hm => by
        simp only [List.mem_cons, List.not_mem_nil, or_false] at hm
        rcases hm with e | e | e | e
        · exact dz e
        · exact dTO e
        · exact di1 e
        · exact di2 e
      frame := fun i h₁ h₂ st hk => by
        obtain ⟨hTI, ⟨h1, hl1⟩, ⟨h2, hl2⟩, hz⟩ := st
        refine ⟨hk _ _ (Ne.symm dTI) hTI, ⟨h1.at fun o e => hk _ o (Ne.symm di1) e, hl1.at fun o e => hk _ o (Ne.symm dl1) e⟩, ⟨h2.at fun o e => hk _ o (Ne.symm di2) e, hl2.at fun o e => hk _ o (Ne.symm dl2) e⟩, ?_⟩
        rcases hz with ⟨hz, a, b, hTO⟩ | ⟨T, f, oT, hz, hT, r1, r2, r3, r4⟩
        · exact .inl ⟨hk _ _ (Ne.symm dz) hz, a, b, hk _ _ (Ne.symm dTO) hTO⟩
        · exact .inr ⟨T, f, oT, hk _ _ (Ne.symm dz) hz, hk _ _ r4 hT, r1, r2, r3, r4⟩
      item := fun i s₁ Q₁ E₁ hi st hds hQ => by
        obtain ⟨hTI, st1, st2, hz⟩ := st
        have hiy : i < ys.size := by omega
        have lt : ∀ {c o}, s₁.heap.get? c = some o → s₁.heap.objs.size ≠ c := fun e => Nat.ne_of_gt (Heap.lt_size e)
        have q1 : s₁.heap.objs.size ≠ i1 := let ⟨_, e, _⟩ := st1.1; lt e
        have q2 : s₁.heap.objs.size ≠ i2 := let ⟨_, e, _⟩ := st2.1; lt e
        rcases hz with ⟨hz, a, b, hTO⟩ | ⟨T, f, oT, hz, hT, r1, r2, r3, r4⟩
        · refine wpAny_pyNext_zipD2_item S D1 D2 hz hTI hTO st1 st2 hi hiy fun x y h' tk ex ey a1 a2 a3 a4 a5 a6 hk => ?_
          have a1' : IsZipHeld h' z TI TO s₁.heap.objs.size false := a1
          exact hQ s₁.heap.objs.size _ _ h' tk ⟨ex, ey⟩ (.inl ⟨_, a5, rfl, _, rfl⟩)
            ⟨hk _ _ S.TIz S.TITO S.TIi1 S.TIi2 hTI, a3, a4, .inr ⟨s₁.heap.objs.size, false, _, a1', a5, lt hz, q1, q2, Nat.ne_of_gt hds⟩⟩
            fun c o hc e => hk c o (fun x => hc (by simp [x])) (fun x => hc (by simp [x])) (fun x => hc (by simp [x])) (fun x => hc (by simp [x])) e
        · refine pyNext_zipH_item S D1 D2 hz hT hTI st1 st2 hi hiy fun x y h' tk ex ey a1 a3 a4 a5 a6 hk => ?_
          exact hQ s₁.heap.objs.size _ _ h' tk ⟨ex, ey⟩ (.inl ⟨_, a5, rfl, _, rfl⟩)
            ⟨hk _ _ S.TIz S.TIi1 S.TIi2 hTI, a3, a4, .inr ⟨T, true, oT, a1, hk _ _ r1 r2 r3 hT, r1, r2, r3, r4⟩⟩
            fun c o hc e => hk c o (fun x => hc (by simp [x])) (fun x => hc (by simp [x])) (fun x => hc (by simp [x])) e
      done := fun s₁ Q₁ E₁ st hQ => by
        obtain ⟨hTI, st1, st2, hz⟩ := st
        rcases hz with ⟨hz, a, b, hTO⟩ | ⟨T, f, oT, hz, hT, r1, r2, r3, r4⟩
        · exact wpAny_pyNext_zipD2_end S D1 D2 hz hTI hTO st1 st2 (Nat.le_refl _) (by omega) (.inl rfl) fun h' tk hk => hQ h' tk fun c o hc e => hk c o (fun x => hc (by simp [x])) (fun x => hc (by simp [x])) (fun x => hc (by simp [x])) (fun x => hc (by simp [x])) e
        · exact pyNext_zipH_end S D1 hz hT hTI st1 fun h' hk => hQ h' s₁.toks fun c o hc e => hk c o (fun x => hc (by simp [x])) (fun x => hc (by simp [x])) (fun x => hc (by simp [x])) e }
end
end PySem
namespace SFW
open PySem PySem.Spec PyProof.Rows L2
section
variable {X : Cx}
/-- dict(zip(xs, t)): a list of keys, a tuple of the same length -/
def tDictZip (K : PySem.W.Frag) (ta : TA) : TE := fun σ H Q => ta σ H fun vs H1 => ∃ (a b : Addr) (ks : List L2.Key) (ys : List V), vs = [.ref a, .ref b] ∧ SqL K H1 a (ks.map kV) ∧ SqT K H1 b ys ∧ ys.length = ks.length ∧
  ∀ p, H1 p = none → Q (.ref p) (upd H1 p (.dK (mergeK [] (ks.zip ys))))
theorem kv_zip {P : Program} {w : World} : ∀ {ks : List L2.Key} {us : List Value} {ys : List V} {ws : List Value}, Vals (ks.map kV) us → Vals ys ws → ys.length = ks.length → KV (ks.zip ys) (ks.zip ws) ∧ (ks.zip ws).length = us.length ∧
    ∀ (i : Nat) (key v : Value), us[i]? = some key → ws[i]? = some v → ∃ k, (ks.zip ws)[i]? = some (k, v) ∧ (mixKind P w).is k key = true
  | [], _, [], _, .nil, .nil, _ => ⟨.nil, rfl, fun i key v h => by simp at h⟩
  | k :: ks, _, y :: ys, _, .cons (b := u) r rr, .cons (b := x) q qq, h => by
    obtain ⟨h1, h2, h3⟩ := kv_zip (P := P) (w := w) rr qq (by simpa using h)
    refine ⟨.cons ⟨rfl, q⟩ h1, by simp [h2], fun i key v e1 e2 => ?_⟩
    cases i with
    | zero =>
      have e1 : u = key := by simpa using e1
      have e2 : x = v := by simpa using e2
      subst e1 e2
      exact ⟨k, rfl, kV_is r⟩
    | succ i => exact h3 i key v (by simpa using e1) (by simpa using e2)
theorem pe_dictZip {e e2 : Expr} {ta : TA} {p p2 q pos : Pos} (hc : X.calm = true) (hg : Gl X "dict") (hm : X.mg "dict" = none) (hg2 : Gl X "zip") (hm2 : X.mg "zip" = none) (ha : PA X [e, e2] ta)
    (hs : starEach [e, e2] X.env = (false, eval e X.env) :: starEach [e2] X.env := by rfl) (hpl : (backTo q (starEach [e2] X.env)).any (·.1) = false := by rfl)
    (hs0 : starEach [.Call (.Name "zip" p2) [e, e2] [] q] X.env = (false, eval (.Call (.Name "zip" p2) [e, e2] [] q) X.env) :: starEach [] X.env := by rfl) :
    PE X (.Call (.Name "dict" p) [.Call (.Name "zip" p2) [e, e2] [] q] [] pos) (tDictZip X.K ta) := by
  refine ⟨fun pins s σ H Q I h => ?_⟩
  refine Call_ (ld_blt I hg hm boot_dict ?_)
  refine PyProof.Rows.callWith_type1 (PyProof.Rows.args_cons ?_ hs0) hs0 rfl
  refine Call_ (ld_blt I hg2 hm2 PyProof.Rows.boot_zip (PyProof.Rows.callWith_type1 (thn (ha.run q pins s σ H _ I h) fun us s1 ⟨vs, H1, I1, r1, q1⟩ => ?_) hs hpl))
  obtain ⟨a, b, ks, ys, rfl, hqx, hqy, hlen, q1⟩ := q1
  obtain ⟨u1, u2, rfl, r, r'⟩ := vals2 r1
  cases r
  cases r'
  obtain ⟨its, rv, p1, hz⟩ := I1.list hqx
  obtain ⟨its2, rv2, p3, _⟩ := I1.tuple hqy
  have p3' : s1.heap.IsTuple b its2.toArray := isTup_isTuple p3
  have la : a < s1.heap.objs.size := p1.lt
  have lb : b < s1.heap.objs.size := by obtain ⟨o, ho, _⟩ := p3'; exact Heap.lt_size ho
  obtain ⟨kv, kl, kh⟩ := kv_zip (P := X.prog) (w := X.w) rv rv2 hlen
  have l12 : its2.toArray.size = its.toArray.size := by
    rw [List.size_toArray, List.size_toArray, ← rv2.length, ← rv.length, List.length_map, hlen]
  refine zip_begins2 (begins_list a its.toArray) (begins_tuple b its2.toArray) p1.isList p3' fun h' hz' hTI hTO h1 h2 hsz hk => PyProof.Rows.args_nil ?_
  have S := zip_sep2 (N := s1.heap.objs.size) (fp1 := [a]) (fp2 := [b]) (by simpa using la) (by simpa using lb)
  have I2 : Inv X pins σ H1 { s1 with heap := h' } := I1.kept (t' := s1.toks) hk
  refine PySem.call_dict_pairs (s := { s1 with heap := h' }) (knd := mixKind X.prog X.w) (kvs := ks.zip its2) (PairArg.zipLT _ _ _ _ _ a b S (Nat.ne_of_lt la) (Nat.ne_of_lt (Nat.lt_succ_of_lt lb)) its.toArray its2.toArray l12) (I2.ok.hd hc)
    ⟨hz', hTI, ⟨_, _, hTO⟩, ⟨_, h1, rfl, rfl⟩, ⟨_, h2, rfl, rfl⟩, p1.isList.at fun o e => hk _ o e, p3'.at fun o e => hk _ o e⟩ ⟨by rw [kl, List.size_toArray], fun i key v e => kh i key v (by simpa using e.1) (by simpa using e.2)⟩
    (by rw [List.size_toArray, ← rv.length]; exact hz) fun h'' tk hd hk2 => ?_
  have big : (h'.objs.size == sysModules) = false := beq_eq_false_iff_ne.mpr (Nat.ne_of_gt I2.big)
  have hl2 : (mergeK [] (ks.zip ys)).length ≤ sizeLine := by
    refine Nat.le_trans (length_mergeK (ks.zip ys) []) ?_
    rw [List.length_nil, Nat.zero_add, List.length_zip, hlen, Nat.min_self]
    rw [List.length_map] at hz; exact hz
  have keep : ∀ b o, s1.heap.get? b = some o → h''.get? b = some o := fun c o e => hk2 c o (fun hm => by
    have hc' := Heap.lt_size e
    simp only [List.mem_cons, List.not_mem_nil, or_false] at hm
    rcases hm with z | z | z | z <;> (subst z; first | exact absurd hc' (Nat.lt_irrefl _) | exact absurd hc' (Nat.not_lt.mpr (Nat.le_add_right _ _)))) (hk c o e)
  refine ⟨.ref h'.objs.size, upd H1 h'.objs.size (.dK (mergeK [] (ks.zip ys))), I1.laid (s := s1) (t' := tk) keep (by rw [hsz]; exact Nat.le_add_right _ _) (show ObjOk X.prog X.w _ _ _ (.dK (mergeK [] (ks.zip ys))) from ⟨hl2, big, _, KV.merge kv .nil, hd⟩), rfl, q1 _ (I1.hok.fresh (by rw [hsz]; exact Nat.le_add_right _ _))⟩
/-- sum(t) of a tuple of ints -/
def rSumT (K : PySem.W.Frag) : List V → Hp → VK → Prop := fun vs H Q => ∃ (a : Addr) (ns : List Int), vs = [V.ref a] ∧ SqT K H a (ns.map V.int) ∧ Q (.int ns.sum) H
theorem cr_sumT (hc : X.calm = true) : CallR X (.builtin "sum") (rSumT X.K) := by
  intro pins s σ H vs us Q I r h
  obtain ⟨a, ns, rfl, hs, q⟩ := h
  obtain ⟨its, rv, ht, _⟩ := I.tuple hs
  rw [Vals.ref1 r]
  obtain ⟨xs, e⟩ := rv.ints.allInts.items
  have hn : numsOf (intItems xs).toList = ns := by rw [← e]; exact rv.ints.numsOf
  rw [nums_intItems] at hn
  have ht' : s.heap.IsTuple a (intItems xs) := by rw [← e]; exact isTup_isTuple ht
  have hlt : a < s.heap.objs.size := by obtain ⟨o, ho, _⟩ := ht'; exact Heap.lt_size ho
  refine call_sum_walkG (wpAny_pyIter_tuple ht' ?_)
  refine ⟨_, _, _, _, _, _, numAt xs, rfl, Walks.tuple (A := X.A.in1) (I.ok.hd hc) _ a (Nat.ne_of_lt hlt) (intItems xs), ⟨⟨_, Heap.get?_push_size _ rfl, rfl, rfl⟩, ht'.push _⟩, fun b hb => ?_, (fun _ _ => intItems_at), fun h' tk t' hk => ?_⟩
  · show b < (s.heap.push _).objs.size
    rw [Heap.size_push]
    rcases List.mem_cons.mp hb with rfl | hb
    · exact Nat.lt_succ_self _
    · have : b = a := by simpa using hb
      subst this; exact Nat.lt_succ_of_lt hlt
  · refine ⟨.int ns.sum, H, I.kept (t' := tk) fun b o e => hk b o (fun hb => ?_) (Heap.get?_push_of_some _ e), ⟨t', ?_⟩, q⟩
    · have : b = s.heap.objs.size := by simpa using hb
      subst this
      exact absurd (Heap.lt_size e) (Nat.lt_irrefl _)
    · rw [preSum_eq, List.take_of_length_le (by simp [intItems]), hn]
/-- {k: v}, k a tuple -/
def tDispT (tk tv : TE) : TE := fun σ H Q => ∀ p, H p = none → tk σ (upd H p (.dT [])) fun x H1 => tv σ H1 fun y H2 => ∃ (b : Addr) (ks : List L2.Key), H2 p = some (.dT []) ∧ x = .ref b ∧ H2 b = some (.tup (ks.map kV)) ∧ Q (.ref p) (upd H2 p (.dT [(ks, y)]))
theorem pe_dispT {k v : Expr} {tk tv : TE} {pos : Pos} (hu : X.A.units + 1 < cLine) (hk : PE X k tk) (hv : PE X v tv) : PE X (.Dict [some k] [v] pos) (tDispT tk tv) := by
  refine ⟨fun pins s σ H Q I q => ?_⟩
  have hn := I.hok.fresh (Nat.le_refl s.heap.objs.size)
  have I1 := I.laid (a := s.heap.objs.size) (o := .dT []) (h' := s.heap.push { cls := .type "dict", data := .dict #[] }) (t' := s.toks) (fun _ _ q => Heap.get?_push_of_some _ q) (Nat.le_refl _) (dt_empty s.heap I.big)
  rw [arm_eval_Dict, zip_pairTrees [some k] [v] X.env pos rfl rfl, dictDisplay_pairs _ (by intro e; cases e) (by show 1 < 17; decide)]
  refine wpAny_bind (wpAny_standAt (wpAny_bind ?_))
  unfold subDict
  refine wpAny_bind (wpAny_alloc ?_)
  refine wpAny_bind (wpAny_holding ?_)
  rw [if_pos (show (pairTrees [some k] [v] X.env pos).length ≤ 15 by show 1 ≤ 15; decide)]
  refine wpAny_bind (pairTrees_cons_walk (thn (hk.run pins _ σ _ _ I1 (q _ hn)) fun kv s1 ⟨x, H1, J1, rx, q1⟩ => thn (hv.run pins s1 σ H1 _ J1 q1) fun vv s2 ⟨y, H2, J2, ry, b, ks, hp, ex, hb, q2⟩ => pairTrees_nil_walk ?_))
  subst ex
  obtain rfl : kv = Value.ref b := rx
  refine wpAny_holding ?_
  simp only [List.forIn_cons, List.forIn_nil]
  obtain ⟨z, hd, xs, rel, dd⟩ := dt_of J2.hok hp
  cases rel
  refine wpAny_bind (wpAny_bind (wpAny_bind (wpAny_dictSet_heap (hsz := Nat.zero_le _) (show X.A.units < cLine from Nat.lt_of_succ_lt hu) (key_of J2.hok hb) dd fun h' dd' hs => wpAny_pure (wpAny_pure (wpAny_pure (wpAny_pure (wpAny_pure ?_)))))))
  obtain ⟨q', es, ep, hq, h2, h3, h4, _, h5⟩ := dd'
  refine ⟨.ref s.heap.objs.size, _, d_write J2 (by rw [hp]; exact True.intro) hs ⟨q', hq⟩ (show ObjOk X.prog X.w _ _ _ (.dT [(ks, y)]) from ⟨by show 1 ≤ sizeLine; decide, hd, _, ?_, q', es, ep, hq, h2, h3, h4, h5⟩), rfl, q2⟩
  refine .cons ⟨rfl, ?_, ry⟩ .nil
  rw [upd_ne (ne_of hb hp (fun z => nomatch z))]
  exact hb
/-- a tuple times one or more -/
def rRepT1 (K : PySem.W.Frag) : R2 := fun x y H Q => ∃ l k xs, x = .ref l ∧ y = .int k ∧ SqT K H l xs ∧ xs ≠ [] ∧ 1 ≤ k ∧ k ≤ 1000 ∧ xs.length ≤ 1000 ∧ (k = 1 → Q (.ref l) H) ∧ (2 ≤ k → ∀ p, H p = none → Q (.ref p) (upd H p (.tup (List.replicate k.toNat xs).flatten)))
theorem tuple_mul1 (l : Addr) (items : Array Value) (n : Nat) (dd : Option Addr) (sl : Array (Option Value)) (u : Tok) :
    Meets (Builtin.«tuple.__mul__» ⟨[.ref l, .int 1 u], []⟩) (fun _ R s => s.heap.get? l = some { cls := .type "tuple", dict := dd, data := .seq items n, slots := sl } ∧ R (.ok (.ret (Value.ref l))) s) :=
  .of_wp fun prog w A R s h => by
    obtain ⟨hp, g, d, tk, os⟩ := s
    obtain ⟨hl, h⟩ := h
    have f1 := AutoSeq1.idx_int
    wp_walk using wpAny_loadPart' hl
    repeat (first
      | (refine wpAny_ite_false (decide_eq_false (by decide)) ?_; wp_walk using wpAny_loadPart' hl)
      | (refine wpAny_ite_true (decide_eq_true (by simp)) ?_; wp_walk using wpAny_loadPart' hl))
    exact ⟨_, rfl, h⟩
theorem op_repT1 : OpR X (binaryOp .Mult) (rRepT1 X.K) := by
  intro pins s σ H x y v u Q I rx ry h
  obtain ⟨l, k, xs, rfl, rfl, hT, hne, h1, h2, hz, q1, q2⟩ := h
  by_cases hk : 2 ≤ k
  · exact op_repT pins s σ H _ _ v u Q I rx ry ⟨l, k, xs, rfl, rfl, hT, hne, hk, h2, hz, q2 hk⟩
  · have e : k = 1 := by omega
    subst e
    cases rx
    obtain ⟨t, rfl⟩ := ry
    obtain ⟨its, r, ⟨⟨cls, dd, data, sl⟩, ho, hc, n, hd⟩, hs⟩ := I.tuple hT
    simp only at hc hd
    subst hc hd
    refine wpAny_binaryOp_repeat_ref (T := "tuple") (U := "int") (by decide) ⟨_, ho, rfl⟩ (fun s' => typeIs_int s' 1 t) noFill_tuple_mul F.fills_int_mul F.slot_int_rmul repeat_tuple F.slot_int_index.lookup
      (call_meets F.slot_int_rmul (typeIs_int s 1 t) F.entry_int_rmul (F.args_int_rmul_2 _ _) (int_rmul_tuple 1 t l its.toArray n dd sl)
        ⟨ho, rfl, ⟨_, ho, rfl⟩, call_meets F.slot_tuple_mul ⟨_, ho, rfl⟩ F.entry_tuple_mul (F.args_tuple_mul_2 _ _) (tuple_mul1 l its.toArray n dd sl t) ⟨ho, ?_⟩⟩)
    exact ⟨.ref l, H, I, rfl, q1 rfl⟩
end
end SFW

set_option maxRecDepth 100000
set_option maxHeartbeats 4000000
/-! # The text by places; polynomials as data -/
namespace SFW
open PySem PySem.Spec PyProof.Rows L2
open SF (Poly)
def topS (i : Nat) : Stmt := PySem.Challenge.pw_spinfield_k12_whole_roads.main.body.getD i (.Pass ⟨0, 0, 0, 0⟩)
theorem b_len : bootBuiltins "len" = some (.builtin "len") := by decide +kernel
theorem b_tuple : bootBuiltins "tuple" = some (.type "tuple") := by decide +kernel
theorem b_list : bootBuiltins "list" = some (.type "list") := by decide +kernel
theorem b_dict : bootBuiltins "dict" = some (.type "dict") := by decide +kernel
theorem b_int : bootBuiltins "int" = some (.type "int") := by decide +kernel
theorem b_sorted : bootBuiltins "sorted" = some (.builtin "sorted") := by decide +kernel
theorem b_any : bootBuiltins "any" = some (.builtin "any") := by decide +kernel
theorem b_all : bootBuiltins "all" = some (.builtin "all") := by decide +kernel
theorem b_sum : bootBuiltins "sum" = some (.builtin "sum") := by decide +kernel
theorem b_min : bootBuiltins "min" = some (.builtin "min") := by decide +kernel
theorem b_max : bootBuiltins "max" = some (.builtin "max") := by decide +kernel
theorem b_abs : bootBuiltins "abs" = some (.builtin "abs") := by decide +kernel
theorem b_isinstance : bootBuiltins "isinstance" = some (.builtin "isinstance") := by decide +kernel
/-! ### data -/
abbrev exD (e : Int × Int) : PyData := .tuple [.int e.1, .int e.2]
abbrev termD (t : (Int × Int) × Int) : PyData := .tuple [exD t.1, .int t.2]
abbrev polyD (p : Poly) : PyData := .tuple (p.map termD)
theorem noL_term (t : (Int × Int) × Int) : noL (termD t) = true := rfl
theorem noL_poly (p : Poly) : noL (polyD p) = true := noLs_map fun _ _ => rfl
abbrev edgeD (e : SF.Edge) : PyData := .tuple [.int (e.1 : Int), .int (e.2.1 : Int), .int e.2.2]
abbrev fieldsD (h : List Int) : PyData := .tuple (h.map PyData.int)
abbrev edgesD (es : List SF.Edge) : PyData := .tuple (es.map edgeD)
abbrev endsD (e : SF.Edge) : PyData := .tuple [.int (e.1 : Int), .int (e.2.1 : Int)]
theorem dp_term {K : PySem.W.Frag} {H : Hp} {v : V} {t : (Int × Int) × Int} (h : Dp K H v (termD t)) : ∃ a b, v = .ref a ∧ SqT K H a [.ref b, .int t.2] ∧ SqT K H b [.int t.1.1, .int t.1.2] := by
  obtain ⟨a, x, y, rfl, h1, h2, h3⟩ := dp_pair h
  obtain ⟨b, rfl, h4⟩ := dp_ex h2
  rw [dp_int h3] at h1
  exact ⟨a, b, rfl, h1, h4⟩
theorem map_at {α β : Type} {f : α → β} {l : List α} {i : Nat} {b : β} (h : (l.map f)[i]? = some b) : ∃ a, l[i]? = some a ∧ b = f a := by
  rw [List.getElem?_map] at h
  cases e : l[i]? with
  | none => rw [e] at h; cases h
  | some a => rw [e] at h; exact ⟨a, rfl, (Option.some.inj h).symm⟩
theorem take_snoc {α : Type} {l : List α} {i : Nat} {x : α} (h : l[i]? = some x) : l.take (i + 1) = l.take i ++ [x] := by
  rw [List.take_add_one, h]; rfl
theorem wipe_set1 (σ : L2.St) (i : Nat) (x : V) : wipe ((wipe σ [i]).set i (some x)) [i] = wipe σ [i] := by
  show ((σ.set i none).set i (some x)).set i none = σ.set i none
  rw [List.set_set, List.set_set]
end SFW

set_option maxRecDepth 100000
set_option maxHeartbeats 4000000
/-! # More of what expressions and statements come to -/
namespace SFW
open PySem PySem.Spec PyProof.Rows L2
open SF (Poly)
section
variable {K : PySem.W.Frag} {σ : L2.St} {H H' : Hp} {ta tb te : TE} {tr : TA} {P P1 P2 : V → Hp → Prop} {d da db : PyData} {ds : List PyData} {r : R2}
theorem dpa_bls : ∀ {bs : List Bool} {vs : List V}, DpAll K H vs (bs.map PyData.bool) → vs = bs.map V.bl
  | [], _, h => dpa_nil h
  | n :: ns, _, h => by
    obtain ⟨v, r, rfl, h1, h2⟩ := dpa_cons h
    rw [dp_bl h1, dpa_bls h2]; rfl
theorem evv_any {bs : List Bool} (h : EvD K te σ H (.list (bs.map PyData.bool))) : EvV (tCB (rAny K) (tCons te tNil)) σ H (.bl (bs.any id)) :=
  evp_cb (ead_cons h ead_nil) fun vs H1 e1 p1 Q q => by
    obtain ⟨v, rfl, p2⟩ := dpa_one p1
    obtain ⟨a, xs, rfl, p3, p4⟩ := dp_lst p2
    rw [dpa_bls p4] at p3
    exact ⟨a, bs, rfl, p3, q _ _ (Same.refl _) rfl⟩
theorem evv_all {bs : List Bool} (h : EvD K te σ H (.list (bs.map PyData.bool))) : EvV (tCB (rAll K) (tCons te tNil)) σ H (.bl (bs.all id)) :=
  evp_cb (ead_cons h ead_nil) fun vs H1 e1 p1 Q q => by
    obtain ⟨v, rfl, p2⟩ := dpa_one p1
    obtain ⟨a, xs, rfl, p3, p4⟩ := dp_lst p2
    rw [dpa_bls p4] at p3
    exact ⟨a, bs, rfl, p3, q _ _ (Same.refl _) rfl⟩
theorem evv_sum {ns : List Int} (h : EvD K te σ H (.list (ns.map PyData.int))) : EvV (tCB (rSum K) (tCons te tNil)) σ H (.int ns.sum) :=
  evp_cb (ead_cons h ead_nil) fun vs H1 e1 p1 Q q => by
    obtain ⟨v, rfl, p2⟩ := dpa_one p1
    obtain ⟨a, xs, rfl, p3, p4⟩ := dp_lst p2
    rw [dpa_ints p4] at p3
    exact ⟨a, ns, rfl, p3, q _ _ (Same.refl _) rfl⟩
theorem evv_sumT {ns : List Int} (h : EvD K te σ H (.tuple (ns.map PyData.int))) : EvV (tCB (rSumT K) (tCons te tNil)) σ H (.int ns.sum) :=
  evp_cb (ead_cons h ead_nil) fun vs H1 e1 p1 Q q => by
    obtain ⟨v, rfl, p2⟩ := dpa_one p1
    obtain ⟨a, xs, rfl, p3, p4⟩ := dp_tup p2
    rw [dpa_ints p4] at p3
    exact ⟨a, ns, rfl, p3, q _ _ (Same.refl _) rfl⟩
theorem evd_lst (h : EvAD K tr σ H ds) (hl : ds.length ≤ sizeLine) : EvD K (tLst tr) σ H (.list ds) := fun H1 e1 Q q => h H1 e1 _ fun vs H2 e2 p2 => ⟨by rw [dpa_len p2]; exact hl, fun p np => q _ _ (e2.trans (same_new np)) (.lst (.inl (.inl upd_same)) (dpa_same (same_new np) p2))⟩
/-- the new list itself -/
theorem evp_lstN (h : EvAD K tr σ H ds) (hl : ds.length ≤ sizeLine) : EvP (tLst tr) σ H fun v H' => ∃ a xs, v = .ref a ∧ H a = none ∧ H' a = some (.lst xs) ∧ DpAll K H' xs ds := fun H1 e1 Q q => h H1 e1 _ fun vs H2 e2 p2 => ⟨by rw [dpa_len p2]; exact hl, fun p np =>
  q _ _ (e2.trans (same_new np)) ⟨p, vs, rfl, (e1.trans e2).free np, upd_same, dpa_same (same_new np) p2⟩⟩
/-- list(..) -/
abbrev rListOf (K : PySem.W.Frag) : List V → Hp → VK → Prop := fun xs H Q => ∃ p ys, xs = [.ref p] ∧ (SqL K H p ys ∨ SqT K H p ys) ∧ ∀ l, H l = none → Q (.ref l) (upd H l (.lst ys))
theorem evp_listT (h : EvD K te σ H (.tuple ds)) : EvP (tCB (rListOf K) (tCons te tNil)) σ H fun v H' => ∃ a xs, v = .ref a ∧ H a = none ∧ H' a = some (.lst xs) ∧ DpAll K H' xs ds := fun H1 e1 Q q => h H1 e1 _ fun v H2 e2 p2 => by
  obtain ⟨a, xs, rfl, p3, p4⟩ := dp_tup p2
  exact ⟨a, xs, rfl, .inr p3, fun l nl => q _ _ (e2.trans (same_new nl)) ⟨l, xs, rfl, (e1.trans e2).free nl, upd_same, dpa_same (same_new nl) p4⟩⟩
theorem evv_min2 {i j : Int} (ha : EvV ta σ H (.int i)) (hb : EvV tb σ H (.int j)) : EvV (tCB (fun xs H Q => ∃ i j, xs = [.int i, .int j] ∧ Q (.int (if j < i then j else i)) H) (tCons ta (tCons tb tNil))) σ H (.int (min i j)) :=
  fun H1 e1 Q q => ha H1 e1 _ fun v H2 e2 p2 => hb H2 (e1.trans e2) _ fun u H3 e3 p3 => by
    subst p2 p3
    refine ⟨i, j, rfl, q _ _ (e2.trans e3) ?_⟩
    congr 1
    split <;> omega
theorem evv_max2 {i j : Int} (ha : EvV ta σ H (.int i)) (hb : EvV tb σ H (.int j)) : EvV (tCB (fun xs H Q => ∃ i j, xs = [.int i, .int j] ∧ Q (.int (if j > i then j else i)) H) (tCons ta (tCons tb tNil))) σ H (.int (max i j)) :=
  fun H1 e1 Q q => ha H1 e1 _ fun v H2 e2 p2 => hb H2 (e1.trans e2) _ fun u H3 e3 p3 => by
    subst p2 p3
    refine ⟨i, j, rfl, q _ _ (e2.trans e3) ?_⟩
    congr 1
    split <;> omega
theorem evv_abs {i : Int} (ha : EvV ta σ H (.int i)) : EvV (tCB (fun xs H Q => ∃ i, xs = [.int i] ∧ Q (.int (if i < 0 then -i else i)) H) (tCons ta tNil)) σ H (.int (i.natAbs : Int)) :=
  fun H1 e1 Q q => ha H1 e1 _ fun v H2 e2 p2 => by
    subst p2
    refine ⟨i, rfl, q _ _ e2 ?_⟩
    congr 1
    split <;> omega
theorem evv_chain {r' : R2} {tc : TE} {x y z : V} {a b : Bool} (hx : EvV ta σ H x) (hy : EvV tb σ H y) (hz : EvV tc σ H z) (h1 : ∀ H1, ∀ Q : VK, Q (.bl a) H1 → r x y H1 Q) (h2 : a = true → ∀ H1, ∀ Q : VK, Q (.bl b) H1 → r' y z H1 Q) : EvV (tChain r r' ta tb tc) σ H (.bl (a && b)) :=
  fun H1 e1 Q q => hx H1 e1 _ fun u H2 e2 p2 => hy H2 (e1.trans e2) _ fun u2 H3 e3 p3 => by
    subst p2 p3
    refine h1 H3 _ ⟨a, rfl, ?_⟩
    cases a with
    | true =>
      refine (hz.up ((e1.trans e2).trans e3)).go fun u3 H4 e4 p4 => ?_
      subst p4
      exact h2 rfl H4 Q (q _ _ ((e2.trans e3).trans e4) (by simp))
    | false => exact q _ _ (e2.trans e3) rfl
theorem evv_add {i j : Int} (ha : EvV ta σ H (.int i)) (hb : EvV tb σ H (.int j)) : EvV (tOp (rI0 fun i j => .int (i + j)) ta tb) σ H (.int (i + j)) := evv_op ha hb fun H1 Q q => ⟨i, j, rfl, rfl, q⟩
theorem evv_sub {i j : Int} (ha : EvV ta σ H (.int i)) (hb : EvV tb σ H (.int j)) : EvV (tOp (rI0 fun i j => .int (i - j)) ta tb) σ H (.int (i - j)) := evv_op ha hb fun H1 Q q => ⟨i, j, rfl, rfl, q⟩
theorem evv_mod {i j : Int} (ha : EvV ta σ H (.int i)) (hb : EvV tb σ H (.int j)) (hc : 0 < j) : EvV (tOp (rI (fun _ j => 0 < j) fun i j => .int (i % j)) ta tb) σ H (.int (i % j)) := evv_op ha hb fun H1 Q q => ⟨i, j, rfl, rfl, hc, q⟩
theorem evv_fdiv {i j : Int} (ha : EvV ta σ H (.int i)) (hb : EvV tb σ H (.int j)) (hc : CDiv i j) : EvV (tOp (rI CDiv fun i j => .int (i / j)) ta tb) σ H (.int (i / j)) := evv_op ha hb fun H1 Q q => ⟨i, j, rfl, rfl, hc, q⟩
theorem evv_mul {i j : Int} (ha : EvV ta σ H (.int i)) (hb : EvV tb σ H (.int j)) (hc : CMul i j) : EvV (tOp (rI CMul fun i j => .int (i * j)) ta tb) σ H (.int (i * j)) := evv_op ha hb fun H1 Q q => ⟨i, j, rfl, rfl, hc, q⟩
theorem evv_shl {i j : Int} (ha : EvV ta σ H (.int i)) (hb : EvV tb σ H (.int j)) (hc : CPow i j) : EvV (tOp (rI CPow fun i j => .int (i * 2 ^ j.toNat)) ta tb) σ H (.int (i * 2 ^ j.toNat)) := evv_op ha hb fun H1 Q q => ⟨i, j, rfl, rfl, hc, q⟩
theorem evv_xor {i j : Int} (ha : EvV ta σ H (.int i)) (hb : EvV tb σ H (.int j)) : EvV (tOp (rI0 fun i j => .int (Builtin.bitXor i j)) ta tb) σ H (.int (Builtin.bitXor i j)) := evv_op ha hb fun H1 Q q => ⟨i, j, rfl, rfl, q⟩
theorem evv_lt {i j : Int} (ha : EvV ta σ H (.int i)) (hb : EvV tb σ H (.int j)) : EvV (tOp (rI0 fun i j => .bl (decide (i < j))) ta tb) σ H (.bl (decide (i < j))) := evv_op ha hb fun H1 Q q => ⟨i, j, rfl, rfl, q⟩
theorem evv_le {i j : Int} (ha : EvV ta σ H (.int i)) (hb : EvV tb σ H (.int j)) : EvV (tOp (rI0 fun i j => .bl (decide (i ≤ j))) ta tb) σ H (.bl (decide (i ≤ j))) := evv_op ha hb fun H1 Q q => ⟨i, j, rfl, rfl, q⟩
theorem evv_gt {i j : Int} (ha : EvV ta σ H (.int i)) (hb : EvV tb σ H (.int j)) : EvV (tOp (rI0 fun i j => .bl (decide (j < i))) ta tb) σ H (.bl (decide (j < i))) := evv_op ha hb fun H1 Q q => ⟨i, j, rfl, rfl, q⟩
theorem evv_ge {i j : Int} (ha : EvV ta σ H (.int i)) (hb : EvV tb σ H (.int j)) : EvV (tOp (rI0 fun i j => .bl (decide (j ≤ i))) ta tb) σ H (.bl (decide (j ≤ i))) := evv_op ha hb fun H1 Q q => ⟨i, j, rfl, rfl, q⟩
theorem evv_neg {i : Int} (ha : EvV ta σ H (.int i)) : EvV (tUn (rU fun i => .int (-i)) ta) σ H (.int (-i)) := evv_un ha fun H1 Q q => ⟨i, rfl, q⟩
theorem evd_bl {b : Bool} (h : EvV te σ H (.bl b)) : EvD K te σ H (.bool b) := h.imp fun v H' _ e => by rw [e]; exact .bl b
/-- statements -/
theorem s_if {c : TT} {t u : TS} {D : Ends} {b : Bool} (h : EvB c σ H b) (h1 : b = true → ∀ H1, Same H H1 → t D σ H1) (h2 : b = false → ∀ H1, Same H H1 → u D σ H1) : tIfS c t u D σ H :=
  h.go fun H1 e1 => by
    cases b with
    | true => exact h1 rfl H1 e1
    | false => exact h2 rfl H1 e1
theorem s_when {c : TT} {t : TS} {D : Ends} {b : Bool} (h : EvB c σ H b) (h1 : b = true → ∀ H1, Same H H1 → t D σ H1) (h2 : b = false → ∀ H1, Same H H1 → D.nx σ H1) : tIfS c t tNext D σ H := s_if h h1 h2
/-- behind the body's end -/
abbrev DQ (Q : VK) : Ends := { nx := fun _ H' => Q .non H', rt := Q }
theorem s_end {Q : VK} (h : EvP te σ H P) (k : ∀ v H', Same H H' → P v H' → Q v H') : tRet te (DQ Q) σ H := h.go k
theorem s_ret {D : Ends} (h : EvP te σ H P) (k : ∀ v H', Same H H' → P v H' → D.rt v H') : tRet te D σ H := h.go k
theorem s_set {D : Ends} {i : Nat} (h : EvP te σ H P) (k : ∀ v H', Same H H' → P v H' → D.nx (σ.set i (some v)) H') : tAsg te (gName i) D σ H := h.go k
/-- the integers of a tuple, by places -/
theorem ints_at {ns : List Int} {i : Nat} {n : Int} (h : ns[i]? = some n) : (ns.map PyData.int)[i]? = some (.int n) := by rw [List.getElem?_map, h]; rfl
end
end SFW

set_option maxRecDepth 100000
set_option maxHeartbeats 4000000
/-! # Polynomials: _gathered, polynomial, plus, times -/
namespace SFW
open PySem PySem.Spec PyProof.Rows L2
open SF (Poly)
abbrev sGath : Stmt := topS 6
abbrev sPoly : Stmt := topS 7
abbrev sPlus : Stmt := topS 8
abbrev sTimes : Stmt := topS 9
theorem scGath : FnScope ["terms", "exponents"] ["terms"] (defScope sGath) := ⟨rfl, rfl, rfl, by decide +kernel, rfl, by decide +kernel, by decide +kernel⟩
theorem scPoly : FnScope ["terms", "found", "exponents", "coefficient"] ["terms"] (defScope sPoly) := ⟨rfl, rfl, rfl, by decide +kernel, rfl, by decide +kernel, by decide +kernel⟩
theorem scPlus : FnScope ["p", "q"] ["p", "q"] (defScope sPlus) := ⟨rfl, rfl, rfl, by decide +kernel, rfl, by decide +kernel, by decide +kernel⟩
theorem scTimes : FnScope ["p", "q", "found", "a", "b", "left", "c", "d", "right", "key"] ["p", "q"] (defScope sTimes) := ⟨rfl, rfl, rfl, by decide +kernel, rfl, by decide +kernel, by decide +kernel⟩
theorem lookE_mem : ∀ {t : List PE3} {p : PE3}, (t.map (·.2.1)).Nodup → p ∈ t → lookE t p.2.1 = some p.2.2
  | q :: r, p, nd, h => by
    rw [List.map_cons, List.nodup_cons] at nd
    unfold lookE
    rcases List.mem_cons.mp h with z | z
    · subst z; rw [if_pos rfl]
    · rw [if_neg fun e => nd.1 (by rw [e]; exact List.mem_map_of_mem z)]
      exact lookE_mem nd.2 z
theorem ev_filter (f : Int × Int → Int) : ∀ t : List PE3, SF.ev ((t.filter fun x => decide (x.2.2 ≠ 0)).map (·.2)) f = SF.ev (pol t) f
  | [] => rfl
  | x :: r => by
    by_cases h : x.2.2 = 0
    · rw [List.filter_cons_of_neg (by simp [h]), ev_filter f r]
      simp [pol, SF.ev_cons, h]
    · rw [List.filter_cons_of_pos (by simp [h])]
      simp only [List.map_cons, SF.ev_cons, pol] at *
      rw [ev_filter f r]
/-- what _gathered gives is the canonical list -/
theorem gath_cf {t t' : List PE3} (nd : (t.map (·.2.1)).Nodup) (perm : t'.Perm t) (asc : t'.Pairwise fun x y => SF.lt2 x.2.1 y.2.1) : SF.cf (pol t) = (t'.filter fun x => decide (x.2.2 ≠ 0)).map (·.2) := by
  symm
  refine SF.cf_of ⟨?_, ?_⟩ fun f => ?_
  · rw [List.pairwise_map]
    exact asc.filter _
  · intro x hx
    obtain ⟨y, hy, rfl⟩ := List.mem_map.mp hx
    simpa using (List.mem_filter.mp hy).2
  · rw [ev_filter]
    exact SF.ev_perm (perm.map _) f
section
variable {P : Program} {w : World} {K : PySem.W.Frag} {mg : Str → Option Value} {base : Heap}
/-- the canonical polynomial of a dict -/
def spGath (P : Program) (w : World) (K : PySem.W.Frag) : Sp := fun vs H Q _ => ∃ a t, vs = [.ref a] ∧ H a = some (PDo P w a t) ∧ PKs K H t ∧ (t.map (·.2.1)).Nodup ∧ t.length < sizeLine ∧
  ∀ v H', Same H H' → Dp K H' v (polyD (SF.cf (pol t))) → Q v H'
theorem ok_gath {f : Addr} {fd : FuncData} (F : Fun K "_gathered" "_gathered" sGath f fd) (mt : mg "tuple" = none) (ms : mg "sorted" = none) : FnOk P w K mg base CX0 1 f fd ["terms"] (spGath P w K) := by
  refine F.ok scGath (fun vs H Q E h => ?_) (fun cdv A outer s H vs Q E hr h => ?_)
  · obtain ⟨a, t, rfl, _⟩ := h; rfl
  · obtain ⟨a, t, rfl, ha, hk, nd, hl, q⟩ := h
    have hu := hu_of hr
    refine ⟨_, pss_one (ps_ret (pe_callTy call_tuple_of (by rfl) mt b_tuple (pa_cons (pe_lc (own := [("exponents", 1)]) (g := gName 1) (tt := tTest (tOp rNe (tPGet P w K (tVar 0) (tVar 1)) (tC (.int 0)))) (te := tTup (tCons (tVar 1) (tCons (tPGet P w K (tVar 0) (tVar 1)) tNil))) rfl scGath.nd (pi_list (pe_callB (cr_psorted rfl) (by rfl) ms b_sorted (pa_cons (pv 0) pa_nil)))
      (blkOk_by (N := ["terms", "exponents"]) (sc := defScope sGath) (by decide +kernel)) (fun _ _ _ _ _ => pg_name (i := 1) scGath.nd rfl (Or.inl rfl)) (fun _ _ _ _ _ => pts_one (pt_cmpR op_ne (pe_pget hu (pv 0) (pv 1) (fun _ _ => rfl)) pe_int (nomark _)))
      (fun _ _ _ _ _ => pe_tup (pa_cons (pv 1) (pa_cons (pe_pget hu (pv 0) (pv 1) (fun _ _ => rfl)) pa_nil)))) pa_nil))), ?_⟩
    refine (evd_tupleL (ds := (SF.cf (pol t)).map termD) ?_).go q
    intro H1 e1 Q1 q1
    refine ⟨.ref a, rfl, a, t, rfl, e1 _ _ ha, fun p hp => sqt_same e1 (hk p hp), nd, fun t' p perm asc np => ⟨p, rfl, ⟨_, .inl (.inl upd_same)⟩, fun D nD => ?_⟩⟩
    have e2 : Same H1 (upd H1 p (.lst (t'.map fun x => V.ref x.1))) := same_new np
    have hl' : t'.length < sizeLine := by rw [perm.length_eq]; exact hl
    have W : WalkL (Itl K p) t' (upd H1 p (.lst (t'.map fun x => V.ref x.1))) (fun e x _ => x = V.ref e.1) (fun H' => SqL K H' p (t'.map fun x => V.ref x.1)) (YAt (t'.map fun x => V.ref x.1)) := by
      refine ⟨by have := walk_list (K := K) (a := p) (xs := t'.map fun x => V.ref x.1); rwa [List.length_map] at this, fun H3 e3 => .inl (.inl (e3 _ _ upd_same)), fun i a H3 x H4 ha e3 y => ?_⟩
      obtain ⟨rfl, hx⟩ := y
      obtain ⟨e, he, rfl⟩ := map_at hx
      rw [ha] at he; cases he
      exact ⟨Same.refl _, rfl⟩
    refine lc_run W nD hl' (fun x => decide (x.2.2 ≠ 0)) (fun x v H' => Dp K H' v (termD x.2)) (fun i v H2 H3 e h => dp_sameT e rfl h) (fun e0 x H' hm e y R k => ?_) fun H' xs sm hD pr => ?_
    · subst y
      have et := perm.mem_iff.mp hm
      have ev : ∀ H2, Same H' H2 → EvV (tPGet P w K (tVar 0) (tVar 1)) ((wipe (start ["terms", "exponents"] [V.ref a]) [1]).set 1 (some (.ref e0.1))) H2 (.int e0.2.2) := fun H2 e2' H3 e3 Q2 q2 =>
        ⟨_, rfl, _, rfl, a, t, e0.1, e0.2.1, e0.2.2, rfl, e3 _ _ (e2' _ _ (e _ _ (e2 _ _ (e1 _ _ ha)))), fun p hp => sqt_same (e1.trans (e2.trans (e.trans (e2'.trans e3)))) (hk p hp), rfl,
          sqt_same (e1.trans (e2.trans (e.trans (e2'.trans e3)))) (hk e0 et), lookE_mem nd et, q2 _ _ (Same.refl _) rfl⟩
      refine k _ (wipe_set1 _ _ _) (.is (evb_test (evv_ne (ev H' (Same.refl _)) evv_c)) (by simp [V.int.injEq])) fun _ => ?_
      refine evd_tup (ead_cons (evd_var rfl (ex_dp (sqt_same (e1.trans (e2.trans e)) (hk e0 et)))) (ead_cons (evv_d (ev H' (Same.refl _))) ead_nil)) (by show 2 ≤ sizeLine; decide)
    · refine q1 _ _ (e2.trans sm) (.lst (.inl (.inl hD)) ?_)
      have := dpa_paired (K := K) (H := H') (d := fun x : PE3 => termD x.2) pr
      rw [gath_cf nd perm asc]
      rw [List.map_map]; exact this
/-- polynomial(terms) -/
def domPoly (ds : List PyData) (d : PyData) : Prop := ∃ q : Poly, (ds = [.list (q.map termD)] ∨ ds = [.tuple (q.map termD)]) ∧ q.length < sizeLine ∧ d = polyD (SF.cf q)
/-- one more term is added up -/
def PInv (P : Program) (w : World) (K : PySem.W.Frag) (H : Hp) (p : Addr) (q : Poly) (H' : Hp) : Prop := ∃ t, Same H H' ∧ H' p = some (PDo P w p t) ∧ PKs K H' t ∧ (t.map (·.2.1)).Nodup ∧ t.length ≤ q.length ∧ ∀ f, SF.ev (pol t) f = SF.ev q f
theorem PInv.put {H H' : Hp} {p : Addr} {q : Poly} (np : H p = none) {t : List PE3} (sm : Same H H') (hp : H' p = some (PDo P w p t)) (pk : PKs K H' t) (nd : (t.map (·.2.1)).Nodup) (hl : t.length ≤ q.length) (ev : ∀ f, SF.ev (pol t) f = SF.ev q f) {b : Addr} {e : Int × Int} (hb : SqT K H' b [.int e.1, .int e.2]) (c : Int) :
    PInv P w K H p (q ++ [(e, c)]) (upd H' p (PDo P w p (putE t b e ((lookE t e).getD 0 + c)))) := by
  have st : SameT H' (upd H' p (PDo P w p (putE t b e ((lookE t e).getD 0 + c)))) := fun a xs r => by
    have ha : a ≠ p := fun z => by
      subst z
      rcases r with r | ⟨o, r⟩ <;> rw [hp] at r <;> cases r
    rcases r with r | ⟨o, r⟩
    · exact .inl (by rw [upd_ne ha]; exact r)
    · exact .inr ⟨o, by rw [upd_ne ha]; exact r⟩
  have up : ∀ {a : Addr} {xs : List V}, SqT K H' a xs → SqT K (upd H' p (PDo P w p (putE t b e ((lookE t e).getD 0 + c)))) a xs := fun h => h.imp (st _ _) id
  refine ⟨_, same_mut sm np, upd_same, fun x hx => up ((pk.put hb _) x hx), putE_keys t b e _ nd, ?_, fun f => ?_⟩
  · have := putE_len t b e ((lookE t e).getD 0 + c)
    rw [List.length_append]; simp; omega
  · rw [putE_ev f t b e c nd, SF.ev_append, ev f]
    simp [SF.ev_cons]
theorem ok_poly {f fG : Addr} {fd fdG : FuncData} (F : Fun K "polynomial" "polynomial" sPoly f fd) (GG : FnOk P w K mg base CX0 1 fG fdG ["terms"] (spGath P w K)) (gG : mg "_gathered" = some (.ref fG)) (kG : PySem.W.keepIn K (.ref fG) = true) (bG : Binds K fdG ["terms"] []) :
    FnOk P w K mg base CX0 2 f fd ["terms"] (spD K domPoly) := by
  refine F.ok scPoly (fun vs H Q E h => ?_) (fun cdv A outer s H vs Q E hr h => ?_)
  · obtain ⟨ds, d, hv, ⟨q, hq, _⟩, _⟩ := h
    rw [dpa_len hv]
    rcases hq with rfl | rfl <;> rfl
  · obtain ⟨ds, d, hv, ⟨q, hq, hl, rfl⟩, k⟩ := h
    have hu := hu_of hr
    -- the loop's body and the end, whatever is walked
    have step : ∀ (D : Ends) (a p : Addr), H p = none → ∀ (i : Nat) (x : (Int × Int) × Int) (xv : V) (σ' : L2.St) (H' H'' : Hp), q[i]? = some x →
        (∃ y2 y3, σ' = [some (.ref a), some (.ref p), y2, y3] ∧ PInv P w K H p (q.take i) H') → Same H' H'' → Dp K H'' xv (termD x) →
        gTup K 2 (gCons (gName 2) (gCons (gName 3) gNil)) xv σ' H'' fun σ2 H2 => sPPut P w K (tVar 1) (tVar 2) (tOp (rI0 fun i j => .int (i + j)) (tPGet2 P w K (tVar 1) (tVar 2) (tC (.int 0))) (tVar 3))
          { D with nx := fun σ3 H3 => ∃ y2 y3, σ3 = [some (.ref a), some (.ref p), y2, y3] ∧ PInv P w K H p (q.take (i + 1)) H3 } σ2 H2 := by
      rintro D a p np i x xv σ' H' H'' hx ⟨y2, y3, rfl, t, sm, hp, pk, nd, hlt, ev⟩ e yd
      obtain ⟨pa, pb, rfl, h1, h2⟩ := dp_term yd
      refine ⟨pa, _, rfl, h1, rfl, _, _, rfl, _, _, rfl, rfl, ?_⟩
      have hp' := e _ _ hp
      have pk' : PKs K H'' t := fun z hz => sqt_same e (pk z hz)
      refine ⟨_, rfl, p, t, rfl, hp', _, rfl, t, pb, x.1, hp', pk', rfl, h2, _, rfl, (lookE t x.1).getD 0, x.2, by cases lookE t x.1 <;> rfl, rfl, _, rfl, _, rfl, p, t, pb, x.1, _, rfl, rfl, hp', pk', rfl, h2, ?_, some (.ref pb), some (.int x.2), rfl, ?_⟩
      · have : (q.take i).length ≤ q.length := by simp; omega
        omega
      · rw [take_next hx]
        exact PInv.put np (sm.trans e) hp' pk' nd hlt ev h2 x.2
    have fin : ∀ (a p : Addr) (D : Ends), D.rt = Q → H p = none → ∀ σ' H', (∃ y2 y3, σ' = [some (.ref a), some (.ref p), y2, y3] ∧ PInv P w K H p (q.take q.length) H') → tRet (tCall (spGath P w K) [] E0 (tCons (tVar 1) tNil)) D σ' H' := by
      rintro a p D hD np σ' H' ⟨y2, y3, rfl, t, sm, hp, pk, nd, hlt, ev⟩
      rw [List.take_length] at ev hlt
      refine ⟨_, rfl, p, t, rfl, hp, pk, nd, by omega, fun v H2 e2 hd => ?_⟩
      rw [hD]
      exact k v H2 (sm.trans e2) (by rw [← SF.cf_eq ev]; exact hd)
    rcases hq with rfl | rfl
    · obtain ⟨v, rfl, hv1⟩ := dpa_one hv
      obtain ⟨a, xs, rfl, h1, h2⟩ := dp_lst hv1
      refine ⟨_, pss_cons (ps_set (i := 1) scPoly.nd rfl (.inl rfl) pe_pnew)
        (pss_cons (ps_for PassesOwn.never rfl (pi_list (pv 0)) (pg_tup rfl (pgs_cons (pg_name (i := 2) scPoly.nd rfl (.inl rfl)) (pgs_cons (pg_name (i := 3) scPoly.nd rfl (.inl rfl)) pgs_nil)))
          (pss_one (ps_pput hu (pv 1) (pv 2) (pe_op op_add (pe_pget2 hu (pv 1) (pv 2) pe_int ⟨rfl, rfl, rfl, rfl⟩) (pv 3)) rfl)))
        (pss_one (ps_ret (pe_call GG hr rfl gG kG bG .nil pass0 (pa_cons (pv 1) pa_nil))))), ?_⟩
      intro p np
      refine ⟨_, rfl, a, rfl, ⟨xs, sql_same (same_new np) h1⟩, for_run (walkL_list h1 h2).map (fun i σ' H' => ∃ y2 y3, σ' = [some (.ref a), some (.ref p), y2, y3] ∧ PInv P w K H p (q.take i) H')
        ⟨none, none, rfl, [], same_new np, upd_same, (fun x hx => nomatch hx), List.nodup_nil, Nat.zero_le _, fun f => rfl⟩ (fun i σ' H' ⟨_, _, _, t, sm, _⟩ => sm) (fun i x xv σ' H' H'' hx pv' e yd => step ⟨fun _ _ => True, Q, fun _ _ => False, fun _ _ => False⟩ a p np i x xv σ' H' H'' hx pv' e yd) (fin a p _ rfl np)⟩
    · obtain ⟨v, rfl, hv1⟩ := dpa_one hv
      obtain ⟨a, xs, rfl, h1, h2⟩ := dp_tup hv1
      refine ⟨_, pss_cons (ps_set (i := 1) scPoly.nd rfl (.inl rfl) pe_pnew)
        (pss_cons (ps_for PassesOwn.never rfl (pi_tup (pv 0)) (pg_tup rfl (pgs_cons (pg_name (i := 2) scPoly.nd rfl (.inl rfl)) (pgs_cons (pg_name (i := 3) scPoly.nd rfl (.inl rfl)) pgs_nil)))
          (pss_one (ps_pput hu (pv 1) (pv 2) (pe_op op_add (pe_pget2 hu (pv 1) (pv 2) pe_int ⟨rfl, rfl, rfl, rfl⟩) (pv 3)) rfl)))
        (pss_one (ps_ret (pe_call GG hr rfl gG kG bG .nil pass0 (pa_cons (pv 1) pa_nil))))), ?_⟩
      intro p np
      refine ⟨_, rfl, a, rfl, ⟨xs, sqt_same (same_new np) h1⟩, for_run (walkL_tup h1 h2).map (fun i σ' H' => ∃ y2 y3, σ' = [some (.ref a), some (.ref p), y2, y3] ∧ PInv P w K H p (q.take i) H')
        ⟨none, none, rfl, [], same_new np, upd_same, (fun x hx => nomatch hx), List.nodup_nil, Nat.zero_le _, fun f => rfl⟩ (fun i σ' H' ⟨_, _, _, t, sm, _⟩ => sm) (fun i x xv σ' H' H'' hx pv' e yd => step ⟨fun _ _ => True, Q, fun _ _ => False, fun _ _ => False⟩ a p np i x xv σ' H' H'' hx pv' e yd) (fin a p _ rfl np)⟩
/-- plus(p, q) -/
def domPlus (ds : List PyData) (d : PyData) : Prop := ∃ p q : Poly, ds = [polyD p, polyD q] ∧ p.length + q.length < sizeLine ∧ d = polyD (SF.plus p q)
theorem ok_plus {f fP : Addr} {fd fdP : FuncData} (F : Fun K "plus" "plus" sPlus f fd) (GP : FnOk P w K mg base CX0 2 fP fdP ["terms"] (spD K domPoly)) (gP : mg "polynomial" = some (.ref fP)) (kP : PySem.W.keepIn K (.ref fP) = true) (bP : Binds K fdP ["terms"] []) :
    FnOk P w K mg base CX0 3 f fd ["p", "q"] (spD K domPlus) := by
  refine F.ok scPlus (fun vs H Q E h => ?_) (fun cdv A outer s H vs Q E hr h => ?_)
  · obtain ⟨ds, d, hv, ⟨p, q, rfl, _⟩, _⟩ := h
    rw [dpa_len hv]; rfl
  · obtain ⟨ds, d, hv, ⟨p, q, rfl, hl, rfl⟩, k⟩ := h
    obtain ⟨x, y, rfl, hx, hy⟩ := dpa_two hv
    refine ⟨_, pss_one (ps_ret (pe_call GP hr rfl gP kP bP .nil pass0 (pa_cons (pe_op op_catA (pv 0) (pv 1)) pa_nil))), ?_⟩
    refine (evd_call (ead_cons (evd_cat (evd_var rfl hx) (evd_var rfl hy) (by simp; omega)) ead_nil) (d := polyD (SF.plus p q)) ⟨p ++ q, .inr (by rw [List.map_append]), by simpa using hl, rfl⟩).go k
/-- times(p, q) -/
def domTimes (ds : List PyData) (d : PyData) : Prop := ∃ p q : Poly, ds = [polyD p, polyD q] ∧ p.length * q.length < sizeLine ∧ (∀ t ∈ p, -(2 ^ 64) < t.2 ∧ t.2 < 2 ^ 64) ∧ d = polyD (SF.times p q)
theorem mul_snoc (s : (Int × Int) × Int) (q : Poly) : ∀ p : Poly, SF.mul (p ++ [s]) q = SF.mul p q ++ SF.scl s q
  | [] => by simp [SF.mul]
  | t :: p => by simp [SF.mul, mul_snoc s q p]
theorem ok_times {f fG : Addr} {fd fdG : FuncData} (F : Fun K "times" "times" sTimes f fd) (GG : FnOk P w K mg base CX0 1 fG fdG ["terms"] (spGath P w K)) (gG : mg "_gathered" = some (.ref fG)) (kG : PySem.W.keepIn K (.ref fG) = true) (bG : Binds K fdG ["terms"] []) :
    FnOk P w K mg base CX0 2 f fd ["p", "q"] (spD K domTimes) := by
  refine F.ok scTimes (fun vs H Q E h => ?_) (fun cdv A outer s H vs Q E hr h => ?_)
  · obtain ⟨ds, d, hv, ⟨p, q, rfl, _⟩, _⟩ := h
    rw [dpa_len hv]; rfl
  · obtain ⟨ds, d, hv, ⟨p, q, rfl, hl, hb, rfl⟩, k⟩ := h
    have hu := hu_of hr
    obtain ⟨x, y, rfl, hx, hy⟩ := dpa_two hv
    obtain ⟨a, xs, rfl, hx1, hx2⟩ := dp_tup hx
    obtain ⟨b, ys, rfl, hy1, hy2⟩ := dp_tup hy
    refine ⟨_, pss_cons (ps_set (i := 2) scTimes.nd rfl (.inl rfl) pe_pnew)
      (pss_cons (ps_for PassesOwn.never rfl (pi_tup (pv 0)) (pg_tup rfl (pgs_cons (pg_tup rfl (pgs_cons (pg_name (i := 3) scTimes.nd rfl (.inl rfl)) (pgs_cons (pg_name (i := 4) scTimes.nd rfl (.inl rfl)) pgs_nil))) (pgs_cons (pg_name (i := 5) scTimes.nd rfl (.inl rfl)) pgs_nil)))
        (pss_one (ps_for PassesOwn.never rfl (pi_tup (pv 1)) (pg_tup rfl (pgs_cons (pg_tup rfl (pgs_cons (pg_name (i := 6) scTimes.nd rfl (.inl rfl)) (pgs_cons (pg_name (i := 7) scTimes.nd rfl (.inl rfl)) pgs_nil))) (pgs_cons (pg_name (i := 8) scTimes.nd rfl (.inl rfl)) pgs_nil)))
          (pss_cons (ps_set (i := 9) scTimes.nd rfl (.inl rfl) (pe_tup (pa_cons (pe_op op_add (pv 3) (pv 6)) (pa_cons (pe_op op_add (pv 4) (pv 7)) pa_nil))))
          (pss_one (ps_pput hu (pv 2) (pv 9) (pe_op op_add (pe_pget2 hu (pv 2) (pv 9) pe_int ⟨rfl, rfl, rfl, rfl⟩) (pe_op op_mul (pv 5) (pv 8))) rfl))))))
      (pss_one (ps_ret (pe_call GG hr rfl gG kG bG .nil pass0 (pa_cons (pv 2) pa_nil))))), ?_⟩
    intro c nc
    refine ⟨_, rfl, a, rfl, ⟨xs, sqt_same (same_new nc) hx1⟩, for_run (walkL_tup hx1 hx2).map (fun i σ' H' => ∃ y3 y4 y5 y6 y7 y8 y9, σ' = [some (.ref a), some (.ref b), some (.ref c), y3, y4, y5, y6, y7, y8, y9] ∧ PInv P w K H c (SF.mul (p.take i) q) H')
      ⟨none, none, none, none, none, none, none, rfl, [], same_new nc, upd_same, (fun x hx => nomatch hx), List.nodup_nil, Nat.zero_le _, fun f => rfl⟩ (fun i σ' H' ⟨_, _, _, _, _, _, _, _, t, sm, _⟩ => sm) (fun i x xv σ' H' H'' hx pv' e yd => ?_) (fun σ' H' pv' => ?_)⟩
    · obtain ⟨y3, y4, y5, y6, y7, y8, y9, rfl, t, sm, hp, pk, nd, hlt, ev⟩ := pv'
      obtain ⟨pa, pb, rfl, h1, h2⟩ := dp_term yd
      refine ⟨pa, _, rfl, h1, rfl, _, _, rfl, ⟨pb, _, rfl, h2, rfl, _, _, rfl, _, _, rfl, rfl, _, _, rfl, rfl, ?_⟩⟩
      refine ⟨_, rfl, b, rfl, ⟨ys, sqt_same (sm.trans e) hy1⟩, for_run (walkL_tup hy1 hy2).map (fun j σ' H' => ∃ y6 y7 y8 y9, σ' = [some (.ref a), some (.ref b), some (.ref c), some (.int x.1.1), some (.int x.1.2), some (.int x.2), y6, y7, y8, y9] ∧ PInv P w K H c (SF.mul (p.take i) q ++ (SF.scl x q).take j) H')
        ⟨y6, y7, y8, y9, rfl, t, sm.trans e, e _ _ hp, fun z hz => sqt_same e (pk z hz), nd, by simpa using hlt, fun f => by simpa using ev f⟩ (fun i σ' H' ⟨_, _, _, _, _, t, sm, _⟩ => sm) (fun j u uv σ2 H2 H3 hu2 pv2 e2 yd2 => ?_) (fun σ2 H2 pv2 => ?_)⟩
      · obtain ⟨y6, y7, y8, y9, rfl, t, sm, hp, pk, nd, hlt, ev⟩ := pv2
        obtain ⟨qa, qb, rfl, h3, h4⟩ := dp_term yd2
        refine ⟨qa, _, rfl, h3, rfl, _, _, rfl, ⟨qb, _, rfl, h4, rfl, _, _, rfl, _, _, rfl, rfl, _, _, rfl, rfl, ?_⟩⟩
        refine ⟨_, rfl, _, rfl, _, _, rfl, rfl, _, rfl, _, rfl, _, _, rfl, rfl, (by show 2 ≤ sizeLine; decide), fun kp nk => ?_⟩
        have ek : Same H3 (upd H3 kp (.tup [.int (x.1.1 + u.1.1), .int (x.1.2 + u.1.2)])) := same_new nk
        have hp' := ek _ _ (e2 _ _ hp)
        have pk' : PKs K (upd H3 kp (.tup [.int (x.1.1 + u.1.1), .int (x.1.2 + u.1.2)])) t := fun z hz => sqt_same (e2.trans ek) (pk z hz)
        have hk' : SqT K (upd H3 kp (.tup [.int (x.1.1 + u.1.1), .int (x.1.2 + u.1.2)])) kp [.int (SF.addE x.1 u.1).1, .int (SF.addE x.1 u.1).2] := .inl (.inl upd_same)
        refine ⟨_, rfl, c, t, rfl, hp', _, rfl, t, kp, SF.addE x.1 u.1, hp', pk', rfl, hk', _, rfl, _, rfl, x.2, u.2, rfl, rfl, .inl (hb x (List.mem_of_getElem? hx)), (lookE t (SF.addE x.1 u.1)).getD 0, x.2 * u.2, by cases lookE t (SF.addE x.1 u.1) <;> rfl, rfl,
          _, rfl, _, rfl, c, t, kp, SF.addE x.1 u.1, _, rfl, rfl, hp', pk', rfl, hk', ?_, some (.int u.1.1), some (.int u.1.2), some (.int u.2), some (.ref kp), rfl, ?_⟩
        · have l1 : (SF.mul (p.take i) q ++ (SF.scl x q).take j).length < (p.length) * q.length := by
            have hi : i < p.length := (List.getElem?_eq_some_iff.mp hx).1
            have hj : j < q.length := (List.getElem?_eq_some_iff.mp hu2).1
            rw [List.length_append, SF.mul_len, List.length_take, List.length_take]
            have : (SF.scl x q).length = q.length := by simp [SF.scl]
            rw [this, Nat.min_eq_left (by omega), Nat.min_eq_left (by omega)]
            have h5 : (i + 1) * q.length ≤ p.length * q.length := Nat.mul_le_mul_right _ hi
            rw [Nat.add_mul, Nat.one_mul] at h5
            omega
          omega
        · have e6 : (SF.scl x q)[j]? = some (SF.addE x.1 u.1, x.2 * u.2) := by unfold SF.scl; rw [List.getElem?_map, hu2]; rfl
          rw [take_next e6, ← List.append_assoc]
          exact PInv.put nc (sm.trans (e2.trans ek)) hp' pk' nd hlt ev hk' _
      · obtain ⟨y6, y7, y8, y9, rfl, t, sm, hp, pk, nd, hlt, ev⟩ := pv2
        refine ⟨_, _, _, y6, y7, y8, y9, rfl, ?_⟩
        have e7 : (SF.scl x q).take q.length = SF.scl x q := List.take_of_length_le (by simp [SF.scl])
        rw [e7] at hlt ev
        rw [take_next hx, mul_snoc]
        exact ⟨t, sm, hp, pk, nd, hlt, ev⟩
    · obtain ⟨y3, y4, y5, y6, y7, y8, y9, rfl, t, sm, hp, pk, nd, hlt, ev⟩ := pv'
      rw [List.take_length] at ev hlt
      refine ⟨_, rfl, c, t, rfl, hp, pk, nd, ?_, fun v H2 e2 hd => ?_⟩
      · rw [SF.mul_len] at hlt; omega
      · refine k v H2 (sm.trans e2) ?_
        have : SF.times p q = SF.cf (pol t) := (SF.cf_eq ev).symm
        rw [this]; exact hd
end
end SFW

set_option maxRecDepth 100000
set_option maxHeartbeats 4000000
/-! # shared, _joined, ends_mask -/
namespace SFW
open PySem PySem.Spec PyProof.Rows L2
open SF (Poly)
abbrev sShared : Stmt := topS 10
abbrev sJoined : Stmt := topS 13
abbrev sEnds : Stmt := topS 21
theorem scShared : FnScope ["p", "divisor", "_", "coefficient", "exponents"] ["p", "divisor"] (defScope sShared) := ⟨rfl, rfl, rfl, by decide +kernel, rfl, by decide +kernel, by decide +kernel⟩
theorem scJoined : FnScope ["parts", "u", "v", "low", "high", "part"] ["parts", "u", "v"] (defScope sJoined) := ⟨rfl, rfl, rfl, by decide +kernel, rfl, by decide +kernel, by decide +kernel⟩
theorem scEnds : FnScope ["u", "v"] ["u", "v"] (defScope sEnds) := ⟨rfl, rfl, rfl, by decide +kernel, rfl, by decide +kernel, by decide +kernel⟩
section
variable {P : Program} {w : World} {K : PySem.W.Frag} {mg : Str → Option Value} {base : Heap}
/-- shared(p, divisor), each coefficient a multiple -/
def domShared (ds : List PyData) (d : PyData) : Prop := ∃ (q : Poly) (c : Int), 0 < c ∧ c < 1073741824 ∧ q.length < sizeLine ∧ ds = [polyD (SF.scale c q), .int c] ∧ d = polyD q
theorem ok_shared {f : Addr} {fd : FuncData} (F : Fun K "shared" "shared" sShared f fd) (ma : mg "any" = none) (mt : mg "tuple" = none) : FnOk P w K mg base CX0 1 f fd ["p", "divisor"] (spD K domShared) := by
  refine F.ok scShared (fun vs H Q E h => ?_) (fun cdv A outer s H vs Q E hr h => ?_)
  · obtain ⟨ds, d, hv, ⟨q, c, _, _, _, rfl, _⟩, _⟩ := h
    rw [dpa_len hv]; rfl
  · obtain ⟨ds, d, hv, ⟨q, c, c0, c1, hl, rfl, rfl⟩, k⟩ := h
    obtain ⟨x, y, rfl, hx, hy⟩ := dpa_two hv
    rw [dp_int hy]
    refine ⟨_, pss_cons (ps_if (pt_val (pe_callB (cr_any rfl) (by rfl) ma b_any (pa_cons (pe_lc (own := [("_", 2), ("coefficient", 3)]) (g := gTup K 2 (gCons (gName 2) (gCons (gName 3) gNil))) (tt := tYes) rfl scShared.nd (pi_tup (pv 0)) (blkOk_by (N := ["p", "divisor", "_", "coefficient", "exponents"]) (sc := defScope sShared) (by decide +kernel))
        (fun _ _ _ _ _ => pg_tup rfl (pgs_cons (pg_name (i := 2) scShared.nd rfl (.inl rfl)) (pgs_cons (pg_name (i := 3) scShared.nd rfl (.inl rfl)) pgs_nil))) (fun _ _ _ _ _ => pts_nil)
        (fun _ _ _ _ _ => pe_cmpR op_ne (pe_op op_mod (pv 3) (pv 1)) pe_int (nomark _))) pa_nil))) (pss_one (ps_ret pe_non)) pss_nil)
      (pss_one (ps_ret (pe_callTy call_tuple_of (by rfl) mt b_tuple (pa_cons (pe_lc (own := [("exponents", 4), ("coefficient", 3)]) (g := gTup K 2 (gCons (gName 4) (gCons (gName 3) gNil))) (tt := tYes) rfl scShared.nd (pi_tup (pv 0)) (blkOk_by (N := ["p", "divisor", "_", "coefficient", "exponents"]) (sc := defScope sShared) (by decide +kernel))
        (fun _ _ _ _ _ => pg_tup rfl (pgs_cons (pg_name (i := 4) scShared.nd rfl (.inl rfl)) (pgs_cons (pg_name (i := 3) scShared.nd rfl (.inl rfl)) pgs_nil))) (fun _ _ _ _ _ => pts_nil)
        (fun _ _ _ _ _ => pe_tup (pa_cons (pv 4) (pa_cons (pe_op op_fdiv (pv 3) (pv 1)) pa_nil)))) pa_nil)))), ?_⟩
    have e0 : (SF.scale c q).map termD = q.map fun t => termD (t.1, t.2 * c) := by unfold SF.scale; rw [List.map_map]; rfl
    have S : ∀ H', Same H H' → Src (iTup K (tVar 0)) (start ["p", "divisor", "_", "coefficient", "exponents"] [x, .int c]) H' q fun t v H' => Dp K H' v (termD (t.1, t.2 * c)) := fun H' e => (src_tup (by rw [← e0]; exact evd_var rfl (dp_same e hx))).map
    refine s_when (evb_B (b := false) ((evv_any (bs := q.map fun _ => false) ?_).vis ?_)) (fun h => nomatch h) (fun _ H1 e1 => ?_)
    · rw [List.map_map]
      refine evd_lcA (S H (Same.refl _)) hl _ (fun _ => rfl) fun t v H' ht e yd R kk => ?_
      obtain ⟨a, b, rfl, h1, h2⟩ := dp_term yd
      refine ⟨a, _, rfl, h1, rfl, _, _, rfl, _, _, rfl, rfl, ?_⟩
      refine kk _ rfl (evd_bl ((evv_ne (evv_mod (evv_var rfl) (evv_var rfl) c0) evv_c).vis ?_))
      have : t.2 * c % c = 0 := Int.mul_emod_left _ _
      simp [this]
    · simp
    · dsimp only
      refine s_end (Q := Q) (evd_tupleL ?_) fun v H2 e2 hd => k v H2 (e1.trans e2) hd
      refine evd_lcA (S H1 e1) hl _ (fun _ => rfl) fun t v H' ht e yd R kk => ?_
      obtain ⟨a, b, rfl, h1, h2⟩ := dp_term yd
      refine ⟨a, _, rfl, h1, rfl, _, _, rfl, _, _, rfl, rfl, ?_⟩
      refine kk _ rfl (evd_tup (ead_cons (evd_var rfl (ex_dp h2)) (ead_cons (evv_d ((evv_fdiv (evv_var rfl) (evv_var rfl) ⟨c0, c1⟩).vis ?_)) ead_nil)) (by show 2 ≤ sizeLine; decide))
      rw [Int.mul_ediv_cancel _ (by omega)]
/-- _joined(parts, u, v) -/
def domJoined (ds : List PyData) (d : PyData) : Prop := ∃ (parts : List Int) (u v : Nat), u < parts.length ∧ v < parts.length ∧ parts.length < sizeLine ∧ ds = [.tuple (parts.map PyData.int), .int (u : Int), .int (v : Int)] ∧
  d = .tuple ((parts.map fun p => if p = max (SF.pat parts u) (SF.pat parts v) then min (SF.pat parts u) (SF.pat parts v) else p).map PyData.int)
theorem ok_joined {f : Addr} {fd : FuncData} (F : Fun K "_joined" "_joined" sJoined f fd) (mn : mg "min" = none) (mx : mg "max" = none) (mt : mg "tuple" = none) : FnOk P w K mg base CX0 1 f fd ["parts", "u", "v"] (spD K domJoined) := by
  refine F.ok scJoined (fun vs H Q E h => ?_) (fun cdv A outer s H vs Q E hr h => ?_)
  · obtain ⟨ds, d, hv, ⟨_, _, _, _, _, _, rfl, _⟩, _⟩ := h
    rw [dpa_len hv]; rfl
  · obtain ⟨ds, d, hv, ⟨parts, u, v, hu, hw, hl, rfl, rfl⟩, k⟩ := h
    obtain ⟨x, y, z, rfl, hx, hy, hz⟩ := dpa_three hv
    rw [dp_int hy, dp_int hz]
    refine ⟨_, pss_cons (ps_set (i := 3) scJoined.nd rfl (.inr rfl) (pe_callB (call_min2 rfl) (by rfl) mn b_min (pa_cons (pe_ix ix_tup (pv 0) (pv 1) (fun _ _ => rfl)) (pa_cons (pe_ix ix_tup (pv 0) (pv 2) (fun _ _ => rfl)) pa_nil))))
      (pss_cons (ps_set (i := 4) scJoined.nd rfl (.inr rfl) (pe_callB (call_max2 rfl) (by rfl) mx b_max (pa_cons (pe_ix ix_tup (pv 0) (pv 1) (fun _ _ => rfl)) (pa_cons (pe_ix ix_tup (pv 0) (pv 2) (fun _ _ => rfl)) pa_nil))))
      (pss_one (ps_ret (pe_callTy call_tuple_of (by rfl) mt b_tuple (pa_cons (pe_lc (own := [("part", 5)]) (g := gName 5) (tt := tYes) rfl scJoined.nd (pi_tup (pv 0)) (blkOk_by (N := ["parts", "u", "v", "low", "high", "part"]) (sc := defScope sJoined) (by decide +kernel))
        (fun _ _ _ _ _ => pg_name (i := 5) scJoined.nd rfl (.inl rfl)) (fun _ _ _ _ _ => pts_nil) (fun _ _ _ _ _ => pe_ifExp (pt_cmpR op_eq (pv 5) (pv 4) (nomark _)) (pv 3) (pv 5))) pa_nil))))), ?_⟩
    have ix : ∀ (σ : L2.St) (H' : Hp) (i j : Nat), Same H H' → σ[0]? = some (some x) → σ[i]? = some (some (.int (j : Int))) → j < parts.length → EvV (tOp (rIxT K) (tVar 0) (tVar i)) σ H' (.int (SF.pat parts j)) := fun σ H' i j e h0 h1 hj =>
      evd_v (evd_ixT (evd_var h0 (dp_same e hx)) (evv_var h1) (ints_at (SF.pat_get hj)))
    refine s_set (evv_min2 (ix _ _ 1 u (Same.refl _) rfl rfl hu) (ix _ _ 2 v (Same.refl _) rfl rfl hw)) fun v1 H1 e1 p1 => ?_
    subst p1
    refine s_set (evv_max2 (ix _ _ 1 u e1 rfl rfl hu) (ix _ _ 2 v e1 rfl rfl hw)) fun v2 H2 e2 p2 => ?_
    subst p2
    dsimp only
    refine s_end (Q := Q) (evd_tupleL ?_) fun v3 H3 e3 p3 => k v3 H3 ((e1.trans e2).trans e3) p3
    rw [List.map_map]
    refine evd_lcA (src_tup (evd_var rfl (dp_same (e1.trans e2) hx))).map hl _ (fun _ => rfl) fun t v H' ht e yd R kk => ?_
    cases dp_int yd
    refine kk _ rfl (evp_if (evb_test (evv_eq (evv_var rfl) (evv_var rfl))) (fun hb => ?_) (fun hb => ?_))
    · have hb' : t = max (SF.pat parts u) (SF.pat parts v) := by simpa using hb
      refine evd_var rfl ?_
      show Dp K H' _ (.int (if _ then _ else _))
      rw [if_pos hb']; exact .int _
    · have hb' : ¬ t = max (SF.pat parts u) (SF.pat parts v) := by simpa using hb
      refine evd_var rfl ?_
      show Dp K H' _ (.int (if _ then _ else _))
      rw [if_neg hb']; exact .int _
/-- ends_mask(u, v) -/
def domEnds (ds : List PyData) (d : PyData) : Prop := ∃ u v : Nat, u < 6 ∧ v < 6 ∧ ds = [.int (u : Int), .int (v : Int)] ∧ d = .int (SF.endsM u v : Int)
theorem ends6 : ∀ u : Nat, u < 6 → ∀ v : Nat, v < 6 → Builtin.bitXor (1 * 2 ^ ((u : Int)).toNat) (1 * 2 ^ ((v : Int)).toNat) = ((SF.endsM u v : Nat) : Int) := by decide +kernel
theorem xor64 : ∀ a : Nat, a < 64 → ∀ b : Nat, b < 64 → Builtin.bitXor (a : Int) (b : Int) = ((a ^^^ b : Nat) : Int) := by decide +kernel
theorem ok_ends {f : Addr} {fd : FuncData} (F : Fun K "ends_mask" "ends_mask" sEnds f fd) : FnOk P w K mg base CX0 1 f fd ["u", "v"] (spD K domEnds) := by
  refine F.ok scEnds (fun vs H Q E h => ?_) (fun cdv A outer s H vs Q E hr h => ?_)
  · obtain ⟨ds, d, hv, ⟨_, _, _, _, rfl, _⟩, _⟩ := h
    rw [dpa_len hv]; rfl
  · obtain ⟨ds, d, hv, ⟨u, v, hu, hw, rfl, rfl⟩, k⟩ := h
    obtain ⟨x, y, rfl, hx, hy⟩ := dpa_two hv
    rw [dp_int hx, dp_int hy]
    refine ⟨_, pss_one (ps_ret (pe_op op_xor (pe_op op_shl pe_int (pv 0)) (pe_op op_shl pe_int (pv 1)))), ?_⟩
    refine s_ret (evv_d (i := ((SF.endsM u v : Nat) : Int)) ?_) fun v3 H3 e3 p3 => k v3 H3 e3 p3
    rw [← ends6 u hu v hw]
    exact evv_xor (evv_shl evv_c (evv_var rfl) ⟨by omega, by omega, by decide⟩) (evv_shl evv_c (evv_var rfl) ⟨by omega, by omega, by decide⟩)
end
end SFW

set_option maxRecDepth 100000
set_option maxHeartbeats 4000000
/-! # Statements, one after another; spins in the heap -/
namespace SFW
open PySem PySem.Spec PyProof.Rows L2
open SF (Poly)
section
variable {K : PySem.W.Frag} {σ : L2.St} {H H' : Hp} {ta tb te : TE} {tr : TA} {P P1 P2 : V → Hp → Prop} {d da db : PyData} {ds : List PyData} {r : R2} {t u tz : TS} {D : Ends}
theorem q_set {i : Nat} (h : EvP te σ H P) (k : ∀ v H', Same H H' → P v H' → tz D (σ.set i (some v)) H') : tSeq (tAsg te (gName i)) tz D σ H := h.go k
theorem q_when {c : TT} {b : Bool} (h : EvB c σ H b) (h1 : b = true → ∀ H1, Same H H1 → t { D with nx := tz D } σ H1) (h2 : b = false → ∀ H1, Same H H1 → tz D σ H1) : tSeq (tIfS c t tNext) tz D σ H :=
  h.go fun H1 e1 => by
    cases b with
    | true => exact h1 rfl H1 e1
    | false => exact h2 rfl H1 e1
theorem q_drop (h : EvP te σ H P) (k : ∀ v H', Same H H' → P v H' → tz D σ H') : tSeq (tDrop te) tz D σ H := h.go k
theorem q_for {α : Type} {wi : TI} {g : TG} {tb : TS} {J : It} {l : List α} {Hb : Hp} {Yp : α → V → Hp → Prop} {G : Hp → Prop} {Y : Nat → Hp → V → Hp → Prop} (hi : ∀ R : It → Hp → Prop, R J H → wi σ H R) (w : WalkL J l Hb Yp G Y)
    (Pv : Nat → L2.St → Hp → Prop) (h0 : Pv 0 σ H) (hb : ∀ i σ' H', Pv i σ' H' → Same Hb H')
    (hs : ∀ i a x σ' H' H'', l[i]? = some a → Pv i σ' H' → Same H' H'' → Yp a x H'' → g x σ' H'' fun σ2 H2 => tb { D with nx := Pv (i + 1), ct := Pv (i + 1), bk := tz D } σ2 H2) (hd : ∀ σ' H', Pv l.length σ' H' → tz D σ' H') : tSeq (tFor wi g tb) tz D σ H :=
  hi _ (for_run (D := { D with nx := tz D }) w Pv h0 hb hs hd)
theorem s_for {α : Type} {wi : TI} {g : TG} {tb : TS} {J : It} {l : List α} {Hb : Hp} {Yp : α → V → Hp → Prop} {G : Hp → Prop} {Y : Nat → Hp → V → Hp → Prop} (hi : ∀ R : It → Hp → Prop, R J H → wi σ H R) (w : WalkL J l Hb Yp G Y)
    (Pv : Nat → L2.St → Hp → Prop) (h0 : Pv 0 σ H) (hb : ∀ i σ' H', Pv i σ' H' → Same Hb H')
    (hs : ∀ i a x σ' H' H'', l[i]? = some a → Pv i σ' H' → Same H' H'' → Yp a x H'' → g x σ' H'' fun σ2 H2 => tb { D with nx := Pv (i + 1), ct := Pv (i + 1), bk := D.nx } σ2 H2) (hd : ∀ σ' H', Pv l.length σ' H' → D.nx σ' H') : tFor wi g tb D σ H :=
  hi _ (for_run w Pv h0 hb hs hd)
/-- for x in range(n) -/
theorem q_forR {g : TG} {tb : TS} {n : Nat} (h : EvV te σ H (.int (n : Int))) (hn : n < 2 ^ 62)
    (Pv : Nat → L2.St → Hp → Prop) (h0 : ∀ H1, Same H H1 → Pv 0 σ H1)
    (hs : ∀ i σ' H', i < n → Pv i σ' H' → g (.int (i : Int)) σ' H' fun σ2 H2 => tb { D with nx := Pv (i + 1), ct := Pv (i + 1), bk := tz D } σ2 H2) (hd : ∀ σ' H', Pv n σ' H' → tz D σ' H') : tSeq (tFor (iRng1 (tCons te tNil)) g tb) tz D σ H := by
  refine h.go fun v H1 e1 p1 => ?_
  subst p1
  refine ⟨(n : Int), rfl, by omega, by omega, ?_⟩
  refine for_range (D := { D with nx := tz D }) Pv (h0 H1 e1) (fun i σ' H' hi pv' => ?_) hd
  have := hs i σ' H' hi pv'
  rw [Int.zero_add]
  exact this
end
/-- lists and tuples are kept -/
structure SameD (H H' : Hp) : Prop where
  l : ∀ b xs, Rd H b (.lst xs) → Rd H' b (.lst xs)
  t : ∀ b xs, Rd H b (.tup xs) → Rd H' b (.tup xs)
def noSeq : HO → Bool
  | .lst _ => false
  | .tup _ => false
  | .frz _ _ => false
  | _ => true
theorem SameD.of {H H' : Hp} (e : Same H H') : SameD H H' := ⟨fun b xs h => rd_same e h, fun b xs h => rd_same e h⟩
theorem SameD.trans {H H1 H2 : Hp} (a : SameD H H1) (b : SameD H1 H2) : SameD H H2 := ⟨fun c xs h => b.l _ _ (a.l _ _ h), fun c xs h => b.t _ _ (a.t _ _ h)⟩
theorem SameD.upd {H : Hp} {p : Addr} {o u : HO} (h : H p = some o) (n : noSeq o = true) : SameD H (upd H p u) := by
  have key : ∀ b v, Rd H b v → noSeq v = false → Rd (L2.upd H p u) b v := fun b v r hv => by
    have hb : b ≠ p := fun e => by
      subst e
      rcases r with r | ⟨o', r⟩ <;> rw [h] at r <;> cases r
      · rw [n] at hv; cases hv
      · cases n
    rcases r with r | ⟨o', r⟩
    · exact .inl (by rw [upd_ne hb]; exact r)
    · exact .inr ⟨o', by rw [upd_ne hb]; exact r⟩
  exact ⟨fun b xs r => key b _ r rfl, fun b xs r => key b _ r rfl⟩
section
variable {K : PySem.W.Frag} {H H' : Hp}
mutual
theorem dp_sameD (e : SameD H H') : ∀ {v : V} {d : PyData}, Dp K H v d → Dp K H' v d
  | _, _, .non => .non
  | _, _, .bl b => .bl b
  | _, _, .int i => .int i
  | _, _, .str x => .str x
  | _, _, .lst h r => .lst (h.imp (e.l _ _) id) (dpa_sameD e r)
  | _, _, .tup h r => .tup (h.imp (e.t _ _) id) (dpa_sameD e r)
theorem dpa_sameD (e : SameD H H') : ∀ {vs : List V} {ds : List PyData}, DpAll K H vs ds → DpAll K H' vs ds
  | _, _, .nil => .nil
  | _, _, .cons h r => .cons (dp_sameD e h) (dpa_sameD e r)
end
end
section
variable {K : PySem.W.Frag} {σ : L2.St} {H H' : Hp} {tv : TE} {P : V → Hp → Prop} {tz : TS} {D : Ends} {C p dx : Addr} {fs : List (Str × V)} {f : Str} {i : Nat}
theorem q_fld (hv : EvP tv σ H P) (hi : σ[i]? = some (some (.ref p))) (hp : H p = some (.ins C dx fs)) (cl : Cls K C) (na : NoAttr K C f) (hl : fs.length < 1000) (k : ∀ v H', Same H H' → P v H' → tz D σ (upd H' p (.ins C dx (putF f v fs)))) : tSeq (sFld K (tVar i) tv f) tz D σ H :=
  hv.go fun v H1 e1 p1 => ⟨_, hi, p, C, dx, fs, rfl, e1 _ _ hp, cl, na, hl, k v H1 e1 p1⟩
theorem s_fld (hv : EvP tv σ H P) (hi : σ[i]? = some (some (.ref p))) (hp : H p = some (.ins C dx fs)) (cl : Cls K C) (na : NoAttr K C f) (hl : fs.length < 1000) (k : ∀ v H', Same H H' → P v H' → D.nx σ (upd H' p (.ins C dx (putF f v fs)))) : sFld K (tVar i) tv f D σ H :=
  hv.go fun v H1 e1 p1 => ⟨_, hi, p, C, dx, fs, rfl, e1 _ _ hp, cl, na, hl, k v H1 e1 p1⟩
theorem evv_leT {ta tb : TE} {ns ms : List Int} (ha : EvD K ta σ H (.tuple (ns.map PyData.int))) (hb : EvD K tb σ H (.tuple (ms.map PyData.int))) :
    EvV (tOp (rLeT K) ta tb) σ H (.bl (Ob.lexAt (fun j => decide (ns.getD j 0 = ms.getD j 0)) (fun j => decide (ns.getD j 0 ≤ ms.getD j 0)) (decide (ns.length ≤ ms.length)) 0 (min ns.length ms.length))) :=
  evp_op ha (fun v H1 H2 e h => dp_same e h) hb fun x y H1 e1 p1 p2 Q q => by
    obtain ⟨a, xs, rfl, h1, h2⟩ := dp_tup p1
    obtain ⟨b, ys, rfl, h3, h4⟩ := dp_tup p2
    rw [dpa_ints h2] at h1
    rw [dpa_ints h4] at h3
    exact ⟨a, b, ns, ms, rfl, rfl, h1, h3, q _ _ (Same.refl _) rfl⟩
end
/-! ### spins in the heap -/
structure SpinTxt (K : PySem.W.Frag) (C : Addr) : Prop where
  cl : Cls K C
  nf : NoAttr K C "fields"
  ne : NoAttr K C "edges"
def spinF (fv ev : V) : List (Str × V) := [("fields", fv), ("edges", ev)]
theorem fe_ne : ¬ (("fields" : Str) = "edges") := by decide +kernel
theorem spinF_f (fv ev : V) : (spinF fv ev).lookup ("fields" : Str) = some fv := by simp [spinF, List.lookup]
theorem spinF_e (fv ev : V) : (spinF fv ev).lookup ("edges" : Str) = some ev := by
  have h : (("edges" : Str) == "fields") = false := beq_eq_false_iff_ne.mpr (Ne.symm fe_ne)
  simp [spinF, List.lookup, h]
def SpinsAt (K : PySem.W.Frag) (C : Addr) (H : Hp) (v : V) (h : List Int) (es : List SF.Edge) : Prop := ∃ a dx fv ev, v = .ref a ∧ H a = some (.ins C dx (spinF fv ev)) ∧ Dp K H fv (fieldsD h) ∧ Dp K H ev (edgesD es)
section
variable {K : PySem.W.Frag} {C : Addr} {σ : L2.St} {H H' : Hp} {te : TE} {v : V} {h : List Int} {es : List SF.Edge}
theorem SpinsAt.same (e : Same H H') (x : SpinsAt K C H v h es) : SpinsAt K C H' v h es := let ⟨a, dx, fv, ev, e1, e2, e3, e4⟩ := x; ⟨a, dx, fv, ev, e1, e _ _ e2, dp_same e e3, dp_same e e4⟩
theorem evd_fields (T : SpinTxt K C) {i : Nat} (hv : σ[i]? = some (some v)) (x : SpinsAt K C H v h es) : EvD K (tFld K (tVar i) "fields") σ H (fieldsD h) :=
  evp_fld (evp_var hv fun H' e => let ⟨a, dx, fv, ev, e1, e2, e3, e4⟩ := x.same e; ⟨a, C, dx, _, fv, e1, e2, T.cl, T.nf, spinF_f fv ev, e3⟩)
theorem evd_edges (T : SpinTxt K C) {i : Nat} (hv : σ[i]? = some (some v)) (x : SpinsAt K C H v h es) : EvD K (tFld K (tVar i) "edges") σ H (edgesD es) :=
  evp_fld (evp_var hv fun H' e => let ⟨a, dx, fv, ev, e1, e2, e3, e4⟩ := x.same e; ⟨a, C, dx, _, ev, e1, e2, T.cl, T.ne, spinF_e fv ev, e4⟩)
end
section
variable {K : PySem.W.Frag} {σ : L2.St} {H H' : Hp} {ta tb te : TE} {tr : TA} {P : V → Hp → Prop} {ds es : List PyData}
/-- arguments of no objects, or known -/
abbrev EvAV (tr : TA) (σ : L2.St) (H : Hp) (vs : List V) : Prop := EvAP tr σ H fun us _ => us = vs
theorem eav_nil : EvAV tNil σ H [] := eap_nil fun _ _ => rfl
theorem eav_cons {v : V} {vs : List V} (ha : EvV te σ H v) (hr : EvAV tr σ H vs) : EvAV (tCons te tr) σ H (v :: vs) := eap_cons ha fun u H1 e1 p1 => fun H2 e2 Q q => hr H2 (e1.trans e2) Q fun us H3 e3 p3 => q us H3 e3 (by rw [p1, p3])
theorem evp_callV {sp : Sp} {E : XK} {vs : List V} (h : EvAV tr σ H vs) (k : ∀ H1, Same H H1 → ∀ Q : VK, (∀ v H2, Same H1 H2 → P v H2 → Q v H2) → sp vs H1 Q E) : EvP (tCall sp [] E tr) σ H P :=
  evp_call h fun us H1 e1 p1 Q q => by rw [p1, List.append_nil]; exact k H1 e1 Q q
/-- zip of two tuples of one length -/
theorem walkL_zipT {a b : Addr} {xs ys : List V} (ha : SqT K H a xs) (hx : DpAll K H xs ds) (hb : SqT K H b ys) (hy : DpAll K H ys es) (hl : ds.length = es.length) :
    WalkL (RZ.ItzT K a b) (ds.zip es) H (fun de x H' => ∃ T x' y', x = .ref T ∧ H' T = some (.tup [x', y']) ∧ Dp K H' x' de.1 ∧ Dp K H' y' de.2) (fun H' => SqT K H' a xs ∧ SqT K H' b ys)
      (fun i H' v H'' => ∃ T x y, v = .ref T ∧ H' T = none ∧ H'' = upd H' T (.tup [x, y]) ∧ xs[i]? = some x ∧ ys[i]? = some y) := by
  have l1 := dpa_len hx
  have l2 := dpa_len hy
  have ln : (ds.zip es).length = ds.length := by rw [List.length_zip, hl, Nat.min_self]
  refine ⟨⟨fun i H' hi g => ?_, fun H' g => ⟨xs, ys, g.1, g.2, .inl (by omega)⟩, fun i H' x H'' hi g y => ?_⟩, fun H3 e3 => ⟨sqt_same e3 ha, sqt_same e3 hb⟩, fun i de H3 x H4 hde e3 y => ?_⟩
  · have i1 : i < xs.length := by omega
    have i2 : i < ys.length := by omega
    exact ⟨xs, ys, xs[i], ys[i], g.1, g.2, List.getElem?_eq_getElem i1, List.getElem?_eq_getElem i2⟩
  · obtain ⟨T, x', y', e1, e2, e3, f1, f2⟩ := y
    exact ⟨T, x', y', e1, e2, e3, f1 _ g.1, f2 _ g.2⟩
  · obtain ⟨T, x', y', rfl, nT, rfl, f1, f2⟩ := y
    obtain ⟨d, hd, pd⟩ := dpa_get hx f1
    obtain ⟨e, he, pe⟩ := dpa_get hy f2
    have : de = (d, e) := by
      have := (List.getElem?_zip_eq_some (z := (d, e))).mpr ⟨hd, he⟩
      rw [hde] at this
      exact Option.some.inj this
    subst this
    exact ⟨same_new nT, T, x', y', rfl, upd_same, dp_same (e3.trans (same_new nT)) pd, dp_same (e3.trans (same_new nT)) pe⟩
theorem src_zipT (h1 : EvD K ta σ H (.tuple ds)) (h2 : EvD K tb σ H (.tuple es)) (hl : ds.length = es.length) :
    Src (RZ.iZipA K (tCons ta (tCons tb tNil))) σ H (ds.zip es) fun de x H' => ∃ T x' y', x = .ref T ∧ H' T = some (.tup [x', y']) ∧ Dp K H' x' de.1 ∧ Dp K H' y' de.2 := fun H1 e1 R k =>
  h1 H1 e1 _ fun v H2 e2 p2 => h2 H2 (e1.trans e2) _ fun u H3 e3 p3 => by
    obtain ⟨a, xs, rfl, p4, p5⟩ := dp_tup p2
    obtain ⟨b, ys, rfl, p6, p7⟩ := dp_tup p3
    exact ⟨a, b, xs, ys, rfl, .inr ⟨sqt_same e3 p4, p6, k _ _ (e2.trans e3) ⟨_, _, walkL_zipT (sqt_same e3 p4) (dpa_same e3 p5) p6 p7 hl⟩⟩⟩
end
end SFW

set_option maxRecDepth 100000
set_option maxHeartbeats 4000000
/-! # Spins, states, sum_by_states -/
namespace SFW
open PySem PySem.Spec PyProof.Rows L2
open SF (Poly)
abbrev sSpinI : Stmt := inClass (topS 28) 0
abbrev sStates : Stmt := topS 29
abbrev sAll : Stmt := topS 30
abbrev sCost : Stmt := topS 31
abbrev sUps : Stmt := topS 32
abbrev sSum : Stmt := topS 33
abbrev nSpinI : List Str := ["self", "fields", "edges", "before", "u", "v", "coupling", "field"]
theorem scSpinI : FnScope nSpinI ["self", "fields", "edges"] (defScope sSpinI) := ⟨rfl, rfl, rfl, by decide +kernel, rfl, by decide +kernel, by decide +kernel⟩
theorem scStates : FnScope ["count", "found", "_", "state", "spin"] ["count"] (defScope sStates) := ⟨rfl, rfl, rfl, by decide +kernel, rfl, by decide +kernel, by decide +kernel⟩
theorem scAll : FnScope ["spins"] ["spins"] (defScope sAll) := ⟨rfl, rfl, rfl, by decide +kernel, rfl, by decide +kernel, by decide +kernel⟩
abbrev nCost : List Str := ["spins", "state", "paid", "field", "spin", "u", "v", "coupling"]
theorem scCost : FnScope nCost ["spins", "state"] (defScope sCost) := ⟨rfl, rfl, rfl, by decide +kernel, rfl, by decide +kernel, by decide +kernel⟩
theorem scUps : FnScope ["state"] ["state"] (defScope sUps) := ⟨rfl, rfl, rfl, by decide +kernel, rfl, by decide +kernel, by decide +kernel⟩
theorem scSum : FnScope ["spins", "state"] ["spins"] (defScope sSum) := ⟨rfl, rfl, rfl, by decide +kernel, rfl, by decide +kernel, by decide +kernel⟩
section
variable {P : Program} {w : World} {K : PySem.W.Frag} {mg : Str → Option Value} {base : Heap}
def spSpinI (K : PySem.W.Frag) (C : Addr) : Sp := fun vs H Q _ => ∃ p dx fv ev h es, vs = [.ref p, fv, ev] ∧ H p = some (.ins C dx []) ∧ Dp K H fv (.list (h.map PyData.int)) ∧ Dp K H ev (.list (es.map edgeD)) ∧ SF.Wf h es ∧
  ∀ H' fv' ev', (∀ b o, H b = some o → b ≠ p → H' b = some o) → H' p = some (.ins C dx (spinF fv' ev')) → Dp K H' fv' (fieldsD h) → Dp K H' ev' (edgesD es) → Q .non H'
theorem ok_spinI {f C : Addr} {fd : FuncData} {uV uE uG : Value} (F : Fun K "__init__" "Spins.__init__" sSpinI f fd) (T : SpinTxt K C) (ml : mg "len" = none) (ma : mg "all" = none) (mb : mg "abs" = none) (mt : mg "tuple" = none)
    (mV : mg "MOST_VERTICES" = some uV) (rV : RelV (.int 12) uV) (mE : mg "MOST_EDGES" = some uE) (rE : RelV (.int 24) uE) (mG : mg "GREATEST" = some uG) (rG : RelV (.int 9) uG) : FnOk P w K mg base CX0 1 f fd ["self", "fields", "edges"] (spSpinI K C) := by
  refine F.ok scSpinI (fun vs H Q E h => ?_) (fun cdv A outer s H vs Q E hr h => ?_)
  · obtain ⟨p, dx, fv, ev, h, es, rfl, _⟩ := h; rfl
  · obtain ⟨p, dx, fv, ev, h, es, rfl, hp, hf, he, wf, k⟩ := h
    have hu := hu_of hr
    refine ⟨_, pss_cons (ps_if (PW.pt (pw_or (pt_cmpR op_lt (pe_callB call_len_seq (by rfl) ml b_len (pa_cons (pv 1) pa_nil)) pe_int (nomark _)) (pw_or (pt_cmpR op_gt (pe_callB call_len_seq (by rfl) ml b_len (pa_cons (pv 1) pa_nil)) (pe_glob (by rfl) mV rV) (nomark _))
        (pw_or1 (pt_cmpR op_gt (pe_callB call_len_seq (by rfl) ml b_len (pa_cons (pv 2) pa_nil)) (pe_glob (by rfl) mE rE) (nomark _)))))) pss_never pss_nil)
      (pss_cons (ps_if (pt_not (pt_val (pe_callB (cr_all rfl) (by rfl) ma b_all (pa_cons (pe_lc (own := [("field", 7)]) (g := gName 7) (tt := tYes) (te := tChain (rI0 fun i j => .bl (decide (i ≤ j))) (rI0 fun i j => .bl (decide (i ≤ j))) (tUn (rU fun i => .int (-i)) (tC (.int 9))) (tVar 7) (tC (.int 9))) rfl scSpinI.nd (pi_list (pv 1)) (blkOk_by (N := nSpinI) (sc := defScope sSpinI) (by decide +kernel))
          (fun _ _ _ _ _ => pg_name (i := 7) scSpinI.nd rfl (.inl rfl)) (fun _ _ _ _ _ => pts_nil) (fun _ _ _ _ _ => pe_chain op_le op_le (pe_un un_neg (pe_glob (by rfl) mG rG)) (pv 7) (pe_glob (by rfl) mG rG))) pa_nil)))) pss_never pss_nil)
      (pss_cons (ps_set (i := 3) scSpinI.nd rfl (.inl rfl) (pe_tup (pa_cons (pe_un un_neg pe_int) (pa_cons (pe_un un_neg pe_int) pa_nil))))
      (pss_cons (ps_for PassesOwn.never rfl (pi_list (pv 2)) (pg_tup rfl (pgs_cons (pg_name (i := 4) scSpinI.nd rfl (.inl rfl)) (pgs_cons (pg_name (i := 5) scSpinI.nd rfl (.inl rfl)) (pgs_cons (pg_name (i := 6) scSpinI.nd rfl (.inl rfl)) pgs_nil))))
        (pss_cons (ps_if (PW.pt (pw_or (pt_cmpR op_lt (pv 4) pe_int (nomark _)) (pw_or (pt_cmpR op_ge (pv 4) (pv 5) (nomark _)) (pw_or (pt_cmpR op_ge (pv 5) (pe_callB call_len_seq (by rfl) ml b_len (pa_cons (pv 1) pa_nil)) (nomark _))
            (pw_or1 (pt_cmpR (op_leT (Nat.lt_of_succ_lt hu)) (pe_tup (pa_cons (pv 4) (pa_cons (pv 5) pa_nil))) (pv 3) (nomark _))))))) pss_never pss_nil)
        (pss_cons (ps_if (PW.pt (pw_or (pt_cmpR op_eq (pv 6) pe_int (nomark _)) (pw_or1 (pt_cmpR op_gt (pe_callB call_abs (by rfl) mb b_abs (pa_cons (pv 6) pa_nil)) (pe_glob (by rfl) mG rG) (nomark _))))) pss_never pss_nil)
        (pss_one (ps_set (i := 3) scSpinI.nd rfl (.inl rfl) (pe_tup (pa_cons (pv 4) (pa_cons (pv 5) pa_nil))))))))
      (pss_cons (ps_fld (pv 0) (pe_callTy call_tuple_of (by rfl) mt b_tuple (pa_cons (pv 1) pa_nil)) rfl)
      (pss_one (ps_fld (pv 0) (pe_callTy call_tuple_of (by rfl) mt b_tuple (pa_cons (pe_lc (own := [("u", 4), ("v", 5), ("coupling", 6)]) (g := gTup K 3 (gCons (gName 4) (gCons (gName 5) (gCons (gName 6) gNil)))) (tt := tYes) rfl scSpinI.nd (pi_list (pv 2)) (blkOk_by (N := nSpinI) (sc := defScope sSpinI) (by decide +kernel))
          (fun _ _ _ _ _ => pg_tup rfl (pgs_cons (pg_name (i := 4) scSpinI.nd rfl (.inl rfl)) (pgs_cons (pg_name (i := 5) scSpinI.nd rfl (.inl rfl)) (pgs_cons (pg_name (i := 6) scSpinI.nd rfl (.inl rfl)) pgs_nil)))) (fun _ _ _ _ _ => pts_nil)
          (fun _ _ _ _ _ => pe_tup (pa_cons (pv 4) (pa_cons (pv 5) (pa_cons (pv 6) pa_nil))))) pa_nil)) rfl)))))), ?_⟩
    refine q_when (b := false) ((evb_or (evb_test (evv_lt (evv_lenL (evd_var rfl hf)) evv_c)) (fun _ => evb_or (evb_test (evv_gt (evv_lenL (evd_var rfl hf)) evv_c)) (fun _ => evb_test (evv_gt (evv_lenL (evd_var rfl he)) evv_c)))).is ?_) (fun z => nomatch z) fun _ H1 e1 => ?_
    · have := wf.lo; have := wf.hi; have := wf.few
      simp only [Bool.or_eq_false_iff, decide_eq_false_iff_not, List.length_map]
      omega
    refine q_when (b := false) ((evb_not (evb_B (evv_all (bs := h.map fun _ => true) ?_))).is ?_) (fun z => nomatch z) fun _ H2 e2 => ?_
    · rw [List.map_map]
      refine evd_lcA (src_list (evd_var rfl (dp_same e1 hf))).map (by have := wf.hi; rw [sizeLine_eq]; omega) _ (fun _ => rfl) fun t v H' ht e yd R kk => ?_
      cases dp_int yd
      have b := wf.fj t ht
      refine kk _ rfl (evd_bl ((evv_chain (evv_neg evv_c) (evv_var rfl) evv_c (fun H1 Q q => ⟨_, _, rfl, rfl, q⟩) (fun _ H1 Q q => ⟨_, _, rfl, rfl, q⟩)).vis ?_))
      congr 1
      simp only [Bool.and_eq_true, decide_eq_true_eq]
      omega
    · simp
    have e12 := e1.trans e2
    refine q_set (evd_tup (K := K) (ead_cons (evv_d (evv_neg evv_c)) (ead_cons (evv_d (evv_neg evv_c)) ead_nil)) (by show 2 ≤ sizeLine; decide)) fun bv H3 e3 pb => ?_
    have e13 := e12.trans e3
    obtain ⟨ea, exs, rfl, he1, he2⟩ := dp_lst he
    refine q_for (fun R r => ⟨_, rfl, ea, rfl, ⟨exs, sql_same e13 he1⟩, r⟩) (walkL_list (K := K) he1 he2).map (fun i σ' H' => ∃ bv y4 y5 y6, σ' = [some (.ref p), some fv, some (.ref ea), some bv, y4, y5, y6, none] ∧ Same H H' ∧ ∃ b1 b2 : Int, Dp K H' bv (.tuple [.int b1, .int b2]) ∧ ∀ e ∈ es.drop i, b1 < (e.1 : Int) ∨ (b1 = (e.1 : Int) ∧ b2 < (e.2.1 : Int)))
      ⟨bv, none, none, none, rfl, e13, -1, -1, pb, fun e _ => .inl (by omega)⟩ (fun i σ' H' ⟨_, _, _, _, _, sm, _⟩ => sm) (fun i a x σ' H' H'' ha pv' e yd => ?_) (fun σ' H' pv' => ?_)
    · obtain ⟨bv, y4, y5, y6, rfl, sm, b1, b2, db, hb⟩ := pv'
      obtain ⟨pa, xu, xv, xj, rfl, h1, h2, h3, h4⟩ := dp_triple yd
      cases dp_int h2
      cases dp_int h3
      cases dp_int h4
      refine ⟨pa, _, rfl, h1, rfl, _, _, rfl, _, _, rfl, _, _, rfl, rfl, ?_⟩
      have hd : es.drop i = a :: es.drop (i + 1) := by rw [List.drop_eq_getElem?_toList_append, ha]; rfl
      have ba := hb a (by rw [hd]; exact List.mem_cons_self)
      have am : a ∈ es := List.mem_of_getElem? ha
      have alt := wf.lt a am
      have acj := wf.cj a am
      refine q_when (b := false) ((evb_or (evb_test (evv_lt (evv_var rfl) evv_c)) (fun _ => evb_or (evb_test (evv_ge (evv_var rfl) (evv_var rfl))) (fun _ => evb_or (evb_test (evv_ge (evv_var rfl) (evv_lenL (evd_var rfl (dp_same (sm.trans e) hf)))))
        (fun _ => evb_test (evv_leT (ns := [(a.1 : Int), (a.2.1 : Int)]) (ms := [b1, b2]) (evd_tup (K := K) (ead_cons (evv_d (evv_var rfl)) (ead_cons (evv_d (evv_var rfl)) ead_nil)) (by show 2 ≤ sizeLine; decide)) (evd_var rfl (dp_same e db))))))).is ?_) (fun z => nomatch z) fun _ H4 e4 => ?_
      · simp only [Bool.or_eq_false_iff, decide_eq_false_iff_not, List.length_map]
        refine ⟨by omega, by omega, by omega, ?_⟩
        simp [Ob.lexAt]
        split <;> omega
      refine q_when (b := false) ((evb_or (evb_test (evv_eq (evv_var rfl) evv_c)) (fun _ => evb_test (evv_gt (evv_abs (evv_var rfl)) evv_c))).is ?_) (fun z => nomatch z) fun _ H5 e5 => ?_
      · simp only [Bool.or_eq_false_iff, decide_eq_false_iff_not, V.int.injEq]
        omega
      refine s_set (evd_tup (K := K) (ead_cons (evv_d (evv_var rfl)) (ead_cons (evv_d (evv_var rfl)) ead_nil)) (by show 2 ≤ sizeLine; decide)) fun bv' H6 e6 pb' => ?_
      refine ⟨bv', _, _, _, rfl, sm.trans (e.trans (e4.trans (e5.trans e6))), _, _, pb', fun e' he' => ?_⟩
      have pw : (es.drop i).Pairwise fun e f => e.1 < f.1 ∨ (e.1 = f.1 ∧ e.2.1 < f.2.1) := wf.asc.drop
      rw [hd, List.pairwise_cons] at pw
      have := pw.1 e' he'
      omega
    · obtain ⟨bv, y4, y5, y6, rfl, sm, _⟩ := pv'
      refine q_fld (evd_tupleL (evd_var rfl (dp_same sm hf))) rfl (sm _ _ hp) T.cl T.nf (by show 0 < 1000; decide) fun fv' H4 e4 pf => ?_
      have hp4 : H4 p = some (.ins C dx []) := e4 _ _ (sm _ _ hp)
      have sd : SameD H4 (upd H4 p (.ins C dx (putF "fields" fv' []))) := .upd hp4 rfl
      refine s_fld (evd_tupleL (K := K) (ds := es.map edgeD) ?_) rfl upd_same T.cl T.ne (by show 1 < 1000; decide) fun ev' H5 e5 pe => ?_
      · refine evd_lcA (l := es) (src_list (evd_var rfl (dp_sameD sd (dp_same (sm.trans e4) (.lst he1 he2))))).map (by have := wf.few; rw [sizeLine_eq]; omega) edgeD (fun _ => rfl) fun t v H' ht e yd R kk => ?_
        obtain ⟨pa, xu, xv, xj, rfl, h1, h2, h3, h4⟩ := dp_triple yd
        cases dp_int h2
        cases dp_int h3
        cases dp_int h4
        refine ⟨pa, _, rfl, h1, rfl, _, _, rfl, _, _, rfl, _, _, rfl, rfl, ?_⟩
        exact kk _ rfl (evd_tup (K := K) (ead_cons (evv_d (evv_var rfl)) (ead_cons (evv_d (evv_var rfl)) (ead_cons (evv_d (evv_var rfl)) ead_nil))) (by show 3 ≤ sizeLine; decide))
      · have hp5 : H5 p = some (.ins C dx (putF "fields" fv' [])) := e5 _ _ upd_same
        have sd5 : SameD H5 (upd H5 p (.ins C dx (putF "edges" ev' (putF "fields" fv' [])))) := .upd hp5 rfl
        have e0 : putF "edges" ev' (putF "fields" fv' []) = spinF fv' ev' := by
          show (if ("fields" : Str) = "edges" then _ else (("fields" : Str), fv') :: putF "edges" ev' []) = _
          rw [if_neg fe_ne]; rfl
        rw [e0] at sd5 ⊢
        refine k _ fv' ev' (fun b o hb hne => ?_) upd_same (dp_sameD sd5 (dp_same e5 (dp_sameD sd pf))) (dp_sameD sd5 pe)
        rw [upd_ne hne]
        exact e5 _ _ (by rw [upd_ne hne]; exact e4 _ _ (sm _ _ hb))
/-! ### states_of -/
abbrev stD (s : List Int) : PyData := .tuple (s.map PyData.int)
abbrev two (S : List (List Int)) : List (List Int) := S.flatMap fun s => [s ++ [0], s ++ [1]]
theorem noL_st (s : List Int) : noL (stD s) = true := noLs_map fun _ _ => rfl
theorem noL_sts (S : List (List Int)) : noLs (S.map stD) = true := noLs_map fun s _ => noL_st s
theorem two_len (S : List (List Int)) : (two S).length = 2 * S.length := by
  induction S with
  | nil => rfl
  | cons s r ih => simp [two, List.flatMap_cons] at ih ⊢; omega
theorem two_snoc (S : List (List Int)) (s : List Int) : two (S ++ [s]) = two S ++ [s ++ [0], s ++ [1]] := by simp [two]
def spStates (K : PySem.W.Frag) : Sp := spD K fun ds d => ∃ n : Nat, n ≤ 6 ∧ ds = [.int (n : Int)] ∧ d = .list ((SF.states n).map stD)
theorem lc_states {σ : L2.St} {H : Hp} {S : List (List Int)} {v : V} (h1 : σ[1]? = some (some v)) (hd : Dp K H v (.list (S.map stD))) (hS : 2 * S.length < sizeLine) (hs : ∀ s ∈ S, s.length < 100) (hσ : ∃ a b c x y, σ = [a, b, c, x, y]) :
    EvD K (tLc2 (iList K (tVar 1)) (gName 3) tYes (iTup K (tTup (tCons (tC (.int 0)) (tCons (tC (.int 1)) tNil)))) (gName 4) tYes (tOp (rCatA K) (tVar 3) (tTup (tCons (tVar 4) tNil))) [3, 4] [4]) σ H (.list ((two S).map stD)) := by
  intro H1 e1 Q q
  obtain ⟨a, xs, rfl, hl, hx⟩ := dp_lst (dp_same e1 hd)
  refine ⟨_, h1, a, rfl, ⟨xs, hl⟩, fun D nD => ⟨fun i m H' => i + m = S.length ∧ Same H1 H' ∧ ∃ acc, H' D = some (.lst acc) ∧ DpAll K H' acc ((two (S.take i)).map stD), ⟨S.length, by omega, same_new nD, [], upd_same, .nil⟩, fun i m H' hW => ?_⟩⟩
  obtain ⟨em, sm, acc, hD, ha⟩ := hW
  obtain ⟨s0, s1, s2, s3, s4, rfl⟩ := hσ
  by_cases hi : i < S.length
  · have gi : S[i]? = some S[i] := List.getElem?_eq_getElem hi
    obtain ⟨x0, hx0, dx0⟩ := dpa_at hx (show (S.map stD)[i]? = some (stD S[i]) by rw [List.getElem?_map, gi]; rfl)
    refine .inr ⟨⟨xs, x0, sql_same sm hl, hx0⟩, fun H' => Same H1 H' ∧ ∃ acc, H' D = some (.lst acc) ∧ DpAll K H' acc ((two (S.take (i + 1))).map stD), fun H2 p => ⟨m - 1, by omega, by omega, p⟩, fun x H2 y => ?_⟩
    obtain ⟨rfl, hy⟩ := y
    have ex : x = x0 := Option.some.inj ((hy xs (sql_same sm hl)).symm.trans hx0)
    subst ex
    refine ⟨rfl, by show 2 ≤ sizeLine; decide, fun T nT => ⟨T, rfl, ⟨_, .inl (.inl upd_same)⟩, ?_⟩⟩
    have TD : D ≠ T := ne_of_none hD nT
    have e2 : Same H2 (upd H2 T (.tup [.int 0, .int 1])) := same_new nT
    refine ⟨fun j k H' => j + k = 2 ∧ Same H1 H' ∧ SqT K H' T [.int 0, .int 1] ∧ ∃ acc, H' D = some (.lst acc) ∧ DpAll K H' acc ((two (S.take i) ++ ([S[i] ++ [0], S[i] ++ [1]]).take j).map stD), ⟨2, by omega, sm.trans e2, .inl (.inl upd_same), acc, e2 _ _ hD, ?_⟩, fun j k H3 hW => ?_⟩
    · rw [List.take_zero, List.append_nil]; exact dpa_same e2 ha
    obtain ⟨ek, sm3, hT, acc3, hD3, ha3⟩ := hW
    by_cases hj : j < 2
    · obtain ⟨b, hb, hbt⟩ : ∃ b : Int, ([V.int 0, V.int 1] : List V)[j]? = some (.int b) ∧ ([S[i] ++ [0], S[i] ++ [1]] : List (List Int))[j]? = some (S[i] ++ [b]) := by
        have : j = 0 ∨ j = 1 := by omega
        rcases this with rfl | rfl
        · exact ⟨0, rfl, rfl⟩
        · exact ⟨1, rfl, rfl⟩
      refine .inr ⟨⟨_, _, hT, hb⟩, fun H' => Same H1 H' ∧ SqT K H' T [.int 0, .int 1] ∧ ∃ acc, H' D = some (.lst acc) ∧ DpAll K H' acc ((two (S.take i) ++ ([S[i] ++ [0], S[i] ++ [1]]).take (j + 1)).map stD), fun H4 p => ⟨k - 1, by omega, by omega, p⟩, fun z H4 y4 => ?_⟩
      obtain ⟨rfl, hy4⟩ := y4
      have ez : z = .int b := Option.some.inj ((hy4 _ hT).symm.trans hb)
      subst ez
      refine ⟨rfl, ?_⟩
      refine (evd_cat (K := K) (ds := S[i].map PyData.int) (es := [.int b]) (evd_var rfl (dp_same sm3 dx0)) (evd_tup (ead_cons (evd_var rfl (.int b)) ead_nil) (by show 1 ≤ sizeLine; decide)) ?_).go fun v H5 e5 p5 => ?_
      · have := hs _ (List.getElem_mem hi)
        rw [List.length_map, sizeLine_eq]; simp; omega
      · have hD5 := e5 _ _ hD3
        have sl : SameT H5 (upd H5 D (.lst (acc3 ++ [v]))) := .lst hD5
        refine ⟨acc3, hD5, ?_, same_mut (sm3.trans e5) nD, (sqt_same e5 hT).imp (sl _ _) id, _, upd_same, ?_⟩
        · rw [dpa_len ha3, List.length_map, List.length_append, two_len, List.length_take, List.length_take]
          simp; omega
        · rw [take_next hbt, ← List.append_assoc, List.map_append]
          refine dpa_snoc (dpa_sameT sl (noL_sts _) (dpa_same e5 ha3)) (dp_sameT sl (noL_st _) ?_)
          rw [stD, List.map_append]
          exact p5
    · have : j = 2 := by omega
      subst this
      refine .inl ⟨⟨_, hT, by simp⟩, sm3, acc3, hD3, ?_⟩
      rw [take_next gi, two_snoc]
      exact ha3
  · refine .inl ⟨⟨xs, sql_same sm hl, ?_⟩, ?_⟩
    · rw [dpa_len hx, List.length_map]; omega
    · have : S.take i = S := List.take_of_length_le (by omega)
      rw [this] at ha
      exact q _ _ sm (.lst (.inl (.inl hD)) ha)
theorem states_two (n : Nat) : SF.states (n + 1) = two (SF.states n) := rfl
theorem ok_states {f : Addr} {fd : FuncData} (F : Fun K "states_of" "states_of" sStates f fd) (mr : mg "range" = none) : FnOk P w K mg base CX0 1 f fd ["count"] (spStates K) := by
  refine F.ok scStates (fun vs H Q E h => ?_) (fun cdv A outer s H vs Q E hr h => ?_)
  · obtain ⟨ds, d, hv, ⟨n, _, rfl, _⟩, _⟩ := h
    rw [dpa_len hv]; rfl
  · obtain ⟨ds, d, hv, ⟨n, hn, rfl, rfl⟩, k⟩ := h
    obtain ⟨x, rfl, hx⟩ := dpa_one hv
    cases dp_int hx
    refine ⟨_, pss_cons (ps_set (i := 1) scStates.nd rfl (.inl rfl) (pe_lst (pa_cons (pe_tup pa_nil) pa_nil)))
      (pss_cons (ps_for PassesOwn.never rfl (pi_range1 (by rfl) mr (pa_cons (pv 0) pa_nil)) (pg_name (i := 2) scStates.nd rfl (.inl rfl))
        (pss_one (ps_setLc2 (i := 1) (own := [("state", 3), ("spin", 4)]) (vs1 := [4]) (g := gName 3) (g1 := gName 4) (tt := tYes) (tt1 := tYes) (wi1 := iTup K (tTup (tCons (tC (.int 0)) (tCons (tC (.int 1)) tNil)))) (te := tOp (rCatA K) (tVar 3) (tTup (tCons (tVar 4) tNil))) rfl scStates.nd rfl rfl (sw_true rfl rfl rfl (by decide +kernel)) (pi_list (pv 1))
          (blkOk_by (N := ["count", "found", "_", "state", "spin"]) (sc := defScope sStates) (by decide +kernel)) (by decide) (fun _ _ _ _ _ => pg_name (i := 3) scStates.nd rfl (.inl rfl)) (fun _ _ _ _ _ => pts_nil)
          (fun _ _ _ _ _ => pi_tup (pe_tup (pa_cons pe_int (pa_cons pe_int pa_nil)))) (fun _ _ _ _ _ => pg_name (i := 4) scStates.nd rfl (.inl rfl)) (fun _ _ _ _ _ => pts_nil)
          (fun _ _ _ _ _ => pe_op op_catA (pv 3) (pe_tup (pa_cons (pv 4) pa_nil))))))
      (pss_one (ps_ret (pv 1)))), ?_⟩
    refine q_set (evd_lst (K := K) (ds := [.tuple []]) (ead_cons (evd_tup ead_nil (by show 0 ≤ sizeLine; decide)) ead_nil) (by show 1 ≤ sizeLine; decide)) fun v H1 e1 p1 => ?_
    refine q_forR (n := n) (evv_var rfl) (by omega) (fun i σ' H' => ∃ v y2, σ' = [some (.int (n : Int)), some v, y2, none, none] ∧ Same H H' ∧ Dp K H' v (.list ((SF.states i).map stD))) (fun H2 e2 => ⟨v, none, rfl, e1.trans e2, dp_same e2 p1⟩) (fun i σ' H' hi pv' => ?_) (fun σ' H' pv' => ?_)
    · obtain ⟨v, y2, rfl, sm, dv⟩ := pv'
      refine s_set (lc_states (K := K) (S := SF.states i) rfl dv ?_ ?_ ⟨_, _, _, _, _, rfl⟩) fun v' H2 e2 p2 => ⟨v', _, rfl, sm.trans e2, p2⟩
      · rw [SF.states_len, sizeLine_eq]
        have : 2 ^ i ≤ 2 ^ 6 := Nat.pow_le_pow_right (by omega) (by omega)
        omega
      · intro s hs
        rw [(SF.states_is hs).len]; omega
    · obtain ⟨v, y2, rfl, sm, dv⟩ := pv'
      exact s_end (Q := Q) (evd_var rfl dv) fun v3 H3 e3 p3 => k v3 H3 (sm.trans e3) p3
/-! ### cost, ups, sum_by_states -/
theorem ok_all {f fS C : Addr} {fd fdS : FuncData} (F : Fun K "all_states" "all_states" sAll f fd) (T : SpinTxt K C) (GS : FnOk P w K mg base CX0 1 fS fdS ["count"] (spStates K)) (gS : mg "states_of" = some (.ref fS)) (kS : PySem.W.keepIn K (.ref fS) = true) (bS : Binds K fdS ["count"] []) (ml : mg "len" = none) :
    FnOk P w K mg base CX0 2 f fd ["spins"] (fun vs H Q _ => ∃ v h es, vs = [v] ∧ SpinsAt K C H v h es ∧ h.length ≤ 6 ∧ ∀ u H', Same H H' → Dp K H' u (.list ((SF.states h.length).map stD)) → Q u H') := by
  refine F.ok scAll (fun vs H Q E h => ?_) (fun cdv A outer s H vs Q E hr h => ?_)
  · obtain ⟨v, h, es, rfl, _⟩ := h; rfl
  · obtain ⟨v, h, es, rfl, S, hl, k⟩ := h
    refine ⟨_, pss_one (ps_ret (pe_call GS hr rfl gS kS bS .nil pass0 (pa_cons (pe_callB call_len_seq (by rfl) ml b_len (pa_cons (pe_fld (pv 0) rfl) pa_nil)) pa_nil))), ?_⟩
    refine s_end (Q := Q) (evd_call (ead_cons (evv_d (evv_lenT (evd_fields T rfl S))) ead_nil) ⟨h.length, hl, by rw [List.length_map], rfl⟩) k
theorem paid_vs {h s : List Int} (hs : SF.IsSt h.length s) : ∀ n, n ≤ h.length → ((((h.zip s).take n).filter fun x => decide (x.2 = 1)).map (·.1)).sum = SF.vs n fun v => SF.fld h v * SF.at0 s v
  | 0, _ => rfl
  | n + 1, hn => by
    have ih := paid_vs hs n (by omega)
    have l1 : n < s.length := by rw [hs.len]; omega
    have g : (h.zip s)[n]? = some (h[n], s[n]) := List.getElem?_zip_eq_some.mpr ⟨List.getElem?_eq_getElem (by omega), List.getElem?_eq_getElem l1⟩
    have e1 : SF.fld h n = h[n] := by simp [SF.fld, List.getD, List.getElem?_eq_getElem (show n < h.length by omega)]
    have e2 : SF.at0 s n = s[n] := by simp [SF.at0, List.getD, List.getElem?_eq_getElem l1]
    show _ = SF.vs n _ + SF.fld h n * SF.at0 s n
    rw [take_next g, List.filter_append, List.map_append, List.sum_append, ih, e1, e2]
    have hb := hs.bit s[n] (List.getElem_mem l1)
    rcases hb with hb | hb
    · rw [hb]; simp
    · rw [hb]; simp
theorem edges_sm (s : List Int) : ∀ es : List SF.Edge, ((es.filter fun e => decide (SF.at0 s e.1 ≠ SF.at0 s e.2.1)).map (·.2.2)).sum = SF.sm es (SF.ecost s)
  | [] => rfl
  | e :: r => by
    have ih := edges_sm s r
    simp only [SF.sm_cons, SF.ecost]
    by_cases h : SF.at0 s e.1 = SF.at0 s e.2.1
    · rw [List.filter_cons_of_neg (by simp [h]), ih, if_pos h]; simp
    · rw [List.filter_cons_of_pos (by simp [h]), List.map_cons, List.sum_cons, ih, if_neg h]
def spCost (K : PySem.W.Frag) (C : Addr) : Sp := fun vs H Q _ => ∃ v st h es s, vs = [v, st] ∧ SpinsAt K C H v h es ∧ Dp K H st (stD s) ∧ SF.IsSt h.length s ∧ SF.Wf h es ∧ ∀ H', Same H H' → Q (.int (SF.cst h es s)) H'
theorem ok_cost {f C : Addr} {fd : FuncData} (F : Fun K "cost" "cost" sCost f fd) (T : SpinTxt K C) (ms : mg "sum" = none) (mz : mg "zip" = none) : FnOk P w K mg base CX0 1 f fd ["spins", "state"] (spCost K C) := by
  refine F.ok scCost (fun vs H Q E h => ?_) (fun cdv A outer s H vs Q E hr h => ?_)
  · obtain ⟨v, st, h, es, s, rfl, _⟩ := h; rfl
  · obtain ⟨v, st, h, es, s, rfl, S, hst, hs, wf, k⟩ := h
    refine ⟨_, pss_cons (ps_set (i := 2) scCost.nd rfl (.inl rfl) (pe_callB (cr_sum rfl) (by rfl) ms b_sum (pa_cons (pe_lc (own := [("field", 3), ("spin", 4)]) (g := gTup K 2 (gCons (gName 3) (gCons (gName 4) gNil))) (tt := tTest (tOp rEq (tVar 4) (tC (.int 1)))) rfl scCost.nd (RZ.pi_zipA (by rfl) mz (pa_cons (pe_fld (pv 0) rfl) (pa_cons (pv 1) pa_nil))) (blkOk_by (N := nCost) (sc := defScope sCost) (by decide +kernel))
        (fun _ _ _ _ _ => pg_tup rfl (pgs_cons (pg_name (i := 3) scCost.nd rfl (.inl rfl)) (pgs_cons (pg_name (i := 4) scCost.nd rfl (.inl rfl)) pgs_nil))) (fun _ _ _ _ _ => pts_one (pt_cmpR op_eq (pv 4) pe_int (nomark _))) (fun _ _ _ _ _ => pv 3)) pa_nil)))
      (pss_one (ps_ret (pe_op op_add (pv 2) (pe_callB (cr_sum rfl) (by rfl) ms b_sum (pa_cons (pe_lc (own := [("u", 5), ("v", 6), ("coupling", 7)]) (g := gTup K 3 (gCons (gName 5) (gCons (gName 6) (gCons (gName 7) gNil)))) (tt := tTest (tOp rNe (tOp (rIxT K) (tVar 1) (tVar 5)) (tOp (rIxT K) (tVar 1) (tVar 6)))) rfl scCost.nd (pi_tup (pe_fld (pv 0) rfl)) (blkOk_by (N := nCost) (sc := defScope sCost) (by decide +kernel))
        (fun _ _ _ _ _ => pg_tup rfl (pgs_cons (pg_name (i := 5) scCost.nd rfl (.inl rfl)) (pgs_cons (pg_name (i := 6) scCost.nd rfl (.inl rfl)) (pgs_cons (pg_name (i := 7) scCost.nd rfl (.inl rfl)) pgs_nil)))) (fun _ _ _ _ _ => pts_one (pt_cmpR op_ne (pe_ix ix_tup (pv 1) (pv 5) (fun _ _ => rfl)) (pe_ix ix_tup (pv 1) (pv 6) (fun _ _ => rfl)) (nomark _))) (fun _ _ _ _ _ => pv 7)) pa_nil))))), ?_⟩
    have hlen : h.length = s.length := hs.len.symm
    have z1 : (h.map PyData.int).zip (s.map PyData.int) = (h.zip s).map fun x => (PyData.int x.1, PyData.int x.2) := by rw [List.zip_map]; rfl
    refine q_set (evv_sum (K := K) (ns := ((h.zip s).filter fun x => decide (x.2 = 1)).map (·.1)) ?_) fun v1 H1 e1 p1 => ?_
    · rw [List.map_map]
      have S0 := src_zipT (K := K) (σ := start nCost [v, st]) (H := H) (evd_fields T (i := 0) rfl S) (evd_var (i := 1) rfl hst) (by simp [hlen])
      rw [z1] at S0
      refine evd_lc S0.map (by have := wf.hi; rw [List.length_zip, sizeLine_eq]; omega) _ _ (fun _ => rfl) fun t x H' ht e yd R kk => ?_
      obtain ⟨pa, x', y', rfl, h1, h2, h3⟩ := yd
      cases dp_int h2
      cases dp_int h3
      refine ⟨pa, _, rfl, .inl (.inl h1), rfl, _, _, rfl, _, _, rfl, rfl, ?_⟩
      exact kk _ rfl ((evb_test (evv_eq (evv_var rfl) evv_c)).is (by simp [V.int.injEq])) fun _ => evv_d (evv_var rfl)
    · subst p1
      have S1 := S.same e1
      refine s_end (Q := Q) (evv_add (evv_var rfl) (evv_sum (K := K) (ns := (es.filter fun e => decide (SF.at0 s e.1 ≠ SF.at0 s e.2.1)).map (·.2.2)) ?_)) fun v3 H3 e3 p3 => ?_
      · rw [List.map_map]
        refine evd_lc (src_tup (evd_edges T rfl S1)).map (by have := wf.few; rw [sizeLine_eq]; omega) _ _ (fun _ => rfl) fun t x H' ht e yd R kk => ?_
        obtain ⟨pa, xu, xv, xj, rfl, h1, h2, h3, h4⟩ := dp_triple yd
        cases dp_int h2
        cases dp_int h3
        cases dp_int h4
        have lt := wf.lt t ht
        refine ⟨pa, _, rfl, h1, rfl, _, _, rfl, _, _, rfl, _, _, rfl, rfl, ?_⟩
        have at_ : ∀ (σ : L2.St) (i j : Nat), σ[1]? = some (some st) → σ[i]? = some (some (.int (j : Int))) → j < h.length → EvV (tOp (rIxT K) (tVar 1) (tVar i)) σ H' (.int (SF.at0 s j)) := fun σ i j h0 h1 hj => by
          refine evd_v (K := K) (evd_ixT (evd_var h0 (dp_same (e1.trans e) hst)) (evv_var h1) (ints_at ?_))
          have hj' : j < s.length := by omega
          simp [SF.at0, List.getD, List.getElem?_eq_getElem hj']
        exact kk _ rfl ((evb_test (evv_ne (at_ _ 5 t.1 rfl rfl (by omega)) (at_ _ 6 t.2.1 rfl rfl (by omega)))).is (by simp [V.int.injEq])) fun _ => evv_d (evv_var rfl)
      · subst p3
        have c1 := paid_vs hs h.length (Nat.le_refl _)
        rw [List.take_of_length_le (by rw [List.length_zip]; omega)] at c1
        rw [c1, edges_sm]
        exact k H3 (e1.trans e3)
theorem ups_sum {n : Nat} : ∀ {s : List Int}, s.sum = SF.ups s := by
  intro s
  have key : ∀ n, n ≤ s.length → (s.take n).sum = SF.vs n (SF.at0 s) := by
    intro n
    induction n with
    | zero => intro _; rfl
    | succ n ih =>
      intro hn
      have l1 : n < s.length := by omega
      show _ = SF.vs n _ + SF.at0 s n
      rw [take_next (List.getElem?_eq_getElem l1), List.sum_append, ih (by omega)]
      simp [SF.at0, List.getD, List.getElem?_eq_getElem l1]
  have := key s.length (Nat.le_refl _)
  rw [List.take_length] at this
  exact this
def domUps (ds : List PyData) (d : PyData) : Prop := ∃ s : List Int, ds = [stD s] ∧ d = .int (SF.ups s)
theorem ok_ups {f : Addr} {fd : FuncData} (F : Fun K "ups" "ups" sUps f fd) (ms : mg "sum" = none) : FnOk P w K mg base CX0 1 f fd ["state"] (spD K domUps) := by
  refine F.ok scUps (fun vs H Q E h => ?_) (fun cdv A outer s H vs Q E hr h => ?_)
  · obtain ⟨ds, d, hv, ⟨_, rfl, _⟩, _⟩ := h
    rw [dpa_len hv]; rfl
  · obtain ⟨ds, d, hv, ⟨s, rfl, rfl⟩, k⟩ := h
    obtain ⟨x, rfl, hx⟩ := dpa_one hv
    refine ⟨_, pss_one (ps_ret (pe_callB (cr_sumT rfl) (by rfl) ms b_sum (pa_cons (pv 0) pa_nil))), ?_⟩
    refine s_end (Q := Q) (evv_d (K := K) (evv_sumT (K := K) (evd_var rfl hx))) fun v3 H3 e3 p3 => k v3 H3 e3 ?_
    rw [← ups_sum (n := 0)]; exact p3
def spSum (K : PySem.W.Frag) (C : Addr) : Sp := fun vs H Q _ => ∃ v h es, vs = [v] ∧ SpinsAt K C H v h es ∧ SF.Wf h es ∧ ∀ u H', Same H H' → Dp K H' u (polyD (SF.Z h es)) → Q u H'
theorem ok_sum {f fA fC fU fP C : Addr} {fd fdA fdC fdU fdP : FuncData} (F : Fun K "sum_by_states" "sum_by_states" sSum f fd)
    (GA : FnOk P w K mg base CX0 2 fA fdA ["spins"] (fun vs H Q _ => ∃ v h es, vs = [v] ∧ SpinsAt K C H v h es ∧ h.length ≤ 6 ∧ ∀ u H', Same H H' → Dp K H' u (.list ((SF.states h.length).map stD)) → Q u H')) (gA : mg "all_states" = some (.ref fA)) (kA : PySem.W.keepIn K (.ref fA) = true) (bA : Binds K fdA ["spins"] [])
    (GC : FnOk P w K mg base CX0 1 fC fdC ["spins", "state"] (spCost K C)) (gC : mg "cost" = some (.ref fC)) (kC : PySem.W.keepIn K (.ref fC) = true) (bC : Binds K fdC ["spins", "state"] [])
    (GU : FnOk P w K mg base CX0 1 fU fdU ["state"] (spD K domUps)) (gU : mg "ups" = some (.ref fU)) (kU : PySem.W.keepIn K (.ref fU) = true) (bU : Binds K fdU ["state"] [])
    (GP : FnOk P w K mg base CX0 2 fP fdP ["terms"] (spD K domPoly)) (gP : mg "polynomial" = some (.ref fP)) (kP : PySem.W.keepIn K (.ref fP) = true) (bP : Binds K fdP ["terms"] []) :
    FnOk P w K mg base CX0 3 f fd ["spins"] (spSum K C) := by
  refine F.ok scSum (fun vs H Q E h => ?_) (fun cdv A outer s H vs Q E hr h => ?_)
  · obtain ⟨v, h, es, rfl, _⟩ := h; rfl
  · obtain ⟨v, h, es, rfl, S, wf, k⟩ := h
    have hr1 : Room 1 _ := hr.mono (by decide)
    refine ⟨_, pss_one (ps_ret (pe_call GP hr rfl gP kP bP .nil pass0 (pa_cons (pe_lc (own := [("state", 1)]) (g := gName 1) (tt := tYes)
      (te := tTup (tCons (tTup (tCons (tCall (spCost K C) [] E0 (tCons (tVar 0) (tCons (tVar 1) tNil))) (tCons (tCall (spD K domUps) [] E0 (tCons (tVar 1) tNil)) tNil))) (tCons (tC (.int 1)) tNil))) rfl scSum.nd
      (pi_list (pe_call GA hr rfl gA kA bA .nil pass0 (pa_cons (pv 0) pa_nil))) (blkOk_by (N := ["spins", "state"]) (sc := defScope sSum) (by decide +kernel)) (fun _ _ _ _ _ => pg_name (i := 1) scSum.nd rfl (.inl rfl)) (fun _ _ _ _ _ => pts_nil)
      (fun _ _ _ _ _ => pe_tup (pa_cons (pe_tup (pa_cons (pe_call GC hr1 rfl gC kC bC .nil pass0 (pa_cons (pv 0) (pa_cons (pv 1) pa_nil))) (pa_cons (pe_call GU hr1 rfl gU kU bU .nil pass0 (pa_cons (pv 1) pa_nil)) pa_nil))) (pa_cons pe_int pa_nil)))) pa_nil))), ?_⟩
    have zl : (SF.states h.length).length < sizeLine := by
      rw [SF.states_len, sizeLine_eq]
      have : 2 ^ h.length ≤ 2 ^ 6 := Nat.pow_le_pow_right (by omega) wf.hi
      omega
    refine s_end (Q := Q) (evd_call (ds := [.list (((SF.states h.length).map fun s => ((SF.cst h es s, SF.ups s), (1 : Int))).map termD)]) (ead_cons ?_ ead_nil) ⟨_, .inl rfl, by rw [List.length_map]; exact zl, rfl⟩) k
    rw [List.map_map]
    refine evd_lcA (l := SF.states h.length) (src_list (evp_callV (eav_cons (evv_var rfl) eav_nil) fun H1 e1 Q q => ⟨v, h, es, rfl, S.same e1, wf.hi, fun u H2 e2 hd => q u H2 e2 hd⟩)).map zl _ (fun _ => rfl) fun t x H' ht e yd R kk => ?_
    refine kk _ rfl (evd_tup (ead_cons (evd_tup (ead_cons (evv_d ?_) (ead_cons ?_ ead_nil)) (by show 2 ≤ sizeLine; decide)) (ead_cons evd_int ead_nil)) (by show 2 ≤ sizeLine; decide))
    · exact evp_callV (eav_cons (evv_var rfl) (eav_cons (evv_var rfl) eav_nil)) fun H1 e1 Q q => ⟨v, x, h, es, t, rfl, S.same (e.trans e1), dp_same e1 yd, SF.states_is ht, wf, fun H2 e2 => q _ H2 e2 rfl⟩
    · exact evd_call (ead_cons (evd_var rfl yd) ead_nil) ⟨t, rfl, rfl⟩
end
end SFW

set_option maxRecDepth 100000
set_option maxHeartbeats 4000000
/-! # Equality of data; tables of polynomials in dicts; locks -/
namespace SFW
open PySem PySem.Spec PyProof.Rows L2
open SF (Poly)
/-! ### equality of data -/
theorem lay_map {α : Type} {f : α → PyData} (h : ∀ a, (f a).canLay0 = true) : ∀ l : List α, PyData.canLayAll0 (l.map f) = true
  | [] => rfl
  | a :: l => by simp only [List.map_cons, PyData.canLayAll0, h a, lay_map h l, Bool.and_self]
theorem dep_map {α : Type} {f : α → PyData} {n : Nat} (h : ∀ a, (f a).depth ≤ n) : ∀ l : List α, PyData.depthAll (l.map f) ≤ n
  | [] => Nat.zero_le _
  | a :: l => by simp only [List.map_cons, PyData.depthAll]; have := h a; have := dep_map h l; omega
theorem shaped_ints (l : List Int) : SeqAt.shaped (.list (l.map PyData.int)) = true := by
  have h1 := lay_map (f := PyData.int) (fun _ => rfl) l
  have h2 := dep_map (f := PyData.int) (n := 0) (fun _ => Nat.le_refl _) l
  unfold SeqAt.shaped
  rw [PyData.canLay0, h1, PyData.depth]
  simp; omega
theorem lay_poly (p : Poly) : (polyD p).canLay0 = true := by
  rw [PyData.canLay0]
  exact lay_map (fun _ => rfl) p
theorem shaped_poly (p : Poly) : SeqAt.shaped (polyD p) = true := by
  have h2 := dep_map (f := termD) (n := 2) (fun _ => by show (max (max 0 (max 0 0) + 1) (max 0 0)) + 1 ≤ 2; decide) p
  unfold SeqAt.shaped
  rw [lay_poly, PyData.depth]
  simp; omega
theorem eqvAll_ints : ∀ (l m : List Int), PyData.eqvAll (l.map PyData.int) (m.map PyData.int) = decide (l = m)
  | [], [] => rfl
  | [], _ :: _ => rfl
  | _ :: _, [] => rfl
  | a :: l, b :: m => by
    rw [List.map_cons, List.map_cons, PyData.eqvAll, eqvAll_ints l m]
    by_cases h : a = b <;> by_cases h2 : l = m <;> simp [PyData.eqv, h, h2]
theorem eqv_ints (l m : List Int) : PyData.eqv (.list (l.map PyData.int)) (.list (m.map PyData.int)) = decide (l = m) := by rw [PyData.eqv]; exact eqvAll_ints l m
section
variable {K : PySem.W.Frag} {σ : L2.St} {H H' : Hp} {ta tb te : TE} {tr : TA} {P : V → Hp → Prop} {d e : PyData} {ds : List PyData}
theorem evv_eqD (ha : EvD K ta σ H d) (hb : EvD K tb σ H e) (sd : SeqAt.shaped d = true) (se : SeqAt.shaped e = true) : EvV (tOp (rEqD K) ta tb) σ H (.bl (PyData.eqv d e)) :=
  evp_op ha (fun v H1 H2 e h => dp_same e h) hb fun x y H1 e1 p1 p2 Q q => ⟨d, e, p1, p2, sd, se, q _ _ (Same.refl _) rfl⟩
theorem evv_neD (ha : EvD K ta σ H d) (hb : EvD K tb σ H e) (sd : SeqAt.shaped d = true) (se : SeqAt.shaped e = true) : EvV (tOp (rNeD K) ta tb) σ H (.bl (!PyData.eqv d e)) :=
  evp_op ha (fun v H1 H2 e h => dp_same e h) hb fun x y H1 e1 p1 p2 Q q => ⟨d, e, p1, p2, sd, se, q _ _ (Same.refl _) rfl⟩
/-- the list 0 .. n - 1 -/
theorem rgV_ints (n : Nat) : rgV 0 (n : Int) = (SF.rangeI n).map V.int := by
  unfold rgV SF.rangeI
  rw [List.map_map]
  have : ((n : Int) - 0).toNat = n := by omega
  rw [this]
  exact List.map_congr_left fun i _ => by simp
theorem evd_rangeL {n : Nat} (h : EvV te σ H (.int (n : Int))) (hn : n ≤ 1000) : EvP (tLstRg (tRg1 te)) σ H fun v H' => ∃ a, v = .ref a ∧ H a = none ∧ H' a = some (.lst ((SF.rangeI n).map V.int)) :=
  fun H1 e1 Q q => h H1 e1 _ fun v H2 e2 p2 => ⟨n, p2, .of_le (by omega) (by omega) (by omega) (by omega), fun l nl => q _ _ (e2.trans (same_new nl)) ⟨l, rfl, (e1.trans e2).free nl, by rw [rgV_ints]; exact upd_same⟩⟩
theorem evd_rangeT {n : Nat} (h : EvV te σ H (.int (n : Int))) (hn : n ≤ 1000) : EvD K (tTupRg (tRg1 te)) σ H (.tuple ((SF.rangeI n).map PyData.int)) :=
  fun H1 e1 Q q => h H1 e1 _ fun v H2 e2 p2 => ⟨n, p2, .of_le (by omega) (by omega) (by omega) (by omega), fun l nl => q _ _ (e2.trans (same_new nl)) (.tup (.inl (.inl (by rw [rgV_ints]; exact upd_same))) (ints_dpa _))⟩
theorem ints_list {a : Addr} {ns : List Int} (h : H a = some (.lst (ns.map V.int))) : Dp K H (.ref a) (.list (ns.map PyData.int)) := .lst (.inl (.inl h)) (ints_dpa _)
/-! ### locks -/
theorem lock_same {H1 H2 : Hp} {d : Addr} {u : HO} {od : Obj} (h : H1 d = some u) (e : Same (upd H1 d (.frz od u)) H2) : Same H1 (upd H2 d u) := fun b o hb => by
  by_cases z : b = d
  · subst z
    rw [h] at hb
    rw [upd_same, ← hb]
  · rw [upd_ne z]
    exact e _ _ (by rw [upd_ne z]; exact hb)
theorem lock_in {H1 : Hp} {d : Addr} {u : HO} {od : Obj} {H : Hp} (e : Same H H1) (n : H d = none) : Same H (upd H1 d (.frz od u)) := same_mut e n
theorem unlock_D {H2 : Hp} {d : Addr} {u : HO} {od : Obj} (h : H2 d = some (.frz od u)) (n : noSeq u = true) : SameD H2 (upd H2 d u) := by
  have key : ∀ b v, Rd H2 b v → noSeq v = false → (∀ o w, v ≠ .frz o w) → Rd (upd H2 d u) b v := fun b v r hv nf => by
    have hb : b ≠ d := fun z => by
      subst z
      rcases r with r | ⟨o', r⟩ <;> rw [h] at r
      · cases r; exact nf _ _ rfl
      · cases r; rw [n] at hv; cases hv
    rcases r with r | ⟨o', r⟩
    · exact .inl (by rw [upd_ne hb]; exact r)
    · exact .inr ⟨o', by rw [upd_ne hb]; exact r⟩
  exact ⟨fun b xs r => key b _ r rfl (fun _ _ z => nomatch z), fun b xs r => key b _ r rfl (fun _ _ z => nomatch z)⟩
theorem lock_D {H1 : Hp} {d : Addr} {u o : HO} (h : H1 d = some u) (n : noSeq u = true) : SameD H1 (upd H1 d o) := .upd h n
/-- an expression within a lock -/
theorem evd_lock {dd : PyData} {q : Addr} {u : HO} (hq : H q = some u) (mu : Mut (some u)) (n : noSeq u = true) (h : ∀ H1 od, Same H H1 → EvD K te σ (upd H1 q (.frz od u)) dd) : EvD K (tLockE te) σ H dd := fun H1 e1 Q k =>
  ⟨q, u, e1 _ _ hq, mu, fun od => (h H1 od e1).go fun v H2 e2 p2 => ⟨e2 _ _ upd_same, k _ _ (lock_same (e1 _ _ hq) e2) (dp_sameD (unlock_D (e2 _ _ upd_same) n) p2)⟩⟩
end
/-! ### tables of polynomials -/
section
variable {K : PySem.W.Frag} {σ : L2.St} {H H' : Hp} {κ κ' : Type} [DecidableEq κ] [DecidableEq κ'] {kf : κ → κ'}
def TabG (kf : κ → κ') (K : PySem.W.Frag) (H : Hp) (kvs : List (κ' × V)) (t : List (κ × Poly)) : Prop := Paired (fun kv x => kv.1 = kf x.1 ∧ Dp K H kv.2 (polyD x.2)) kvs t
omit [DecidableEq κ] [DecidableEq κ'] in
theorem TabG.up {kvs : List (κ' × V)} {t : List (κ × Poly)} (e : SameD H H') (h : TabG kf K H kvs t) : TabG kf K H' kvs t := pmap h fun _ _ p => ⟨p.1, dp_sameD e p.2⟩
theorem TabG.get {kvs : List (κ' × V)} {t : List (κ × Poly)} (inj : ∀ a b, kf a = kf b → a = b) (h : TabG kf K H kvs t) (k : κ) : (∀ v, valV kvs (kf k) = some v → Dp K H v (polyD (SF.tget t k))) ∧ (valV kvs (kf k) = none → SF.tget t k = []) := by
  induction h with
  | nil => exact ⟨fun v h => (by rw [valV_nil] at h; cases h), fun _ => rfl⟩
  | @cons p x ps t hx _ ih =>
    unfold SF.tget
    by_cases e : x.1 = k
    · have e' : p.1 = kf k := by rw [hx.1, e]
      rw [valV_pos e', if_pos e]
      exact ⟨fun v h => by cases h; exact hx.2, fun h => nomatch h⟩
    · have e' : ¬ p.1 = kf k := fun z => e (inj _ _ (hx.1 ▸ z))
      rw [valV_neg e', if_neg e]
      exact ih
theorem TabG.put {kvs : List (κ' × V)} {t : List (κ × Poly)} (inj : ∀ a b, kf a = kf b → a = b) (h : TabG kf K H kvs t) (k : κ) (nd : (t.map (·.1)).Nodup) {v : V} {p : Poly} (hv : Dp K H v (polyD p)) : TabG kf K H (putK kvs (kf k) v) (SF.tput t k p) := by
  have mapN : ∀ {kvs : List (κ' × V)} {t : List (κ × Poly)}, TabG kf K H kvs t → k ∉ t.map (·.1) → kvs.map (fun kv => if kv.1 = kf k then (kv.1, v) else kv) = kvs := by
    intro kvs t h
    induction h with
    | nil => intro _; rfl
    | @cons q x qs t hx _ ih =>
      intro hn
      rw [List.map_cons, List.mem_cons, not_or] at hn
      rw [List.map_cons, ih hn.2, if_neg fun z => hn.1 (inj _ _ (hx.1 ▸ z)).symm]
  induction h with
  | nil => exact .cons ⟨rfl, hv⟩ .nil
  | @cons q x qs t hx ht ih =>
    rw [List.map_cons, List.nodup_cons] at nd
    unfold SF.tput
    by_cases e : x.1 = k
    · have e' : q.1 = kf k := by rw [hx.1, e]
      have a1 : ((q :: qs).any fun kv => decide (kv.1 = kf k)) = true := by simp [e']
      unfold putK
      rw [if_pos a1, if_pos e, List.map_cons, if_pos e', mapN ht (by rw [← e]; exact nd.1)]
      exact .cons ⟨e', hv⟩ ht
    · have e' : ¬ q.1 = kf k := fun z => e (inj _ _ (hx.1 ▸ z))
      rw [if_neg e]
      have ih := ih nd.2
      unfold putK at ih ⊢
      have a1 : ((q :: qs).any fun kv => decide (kv.1 = kf k)) = (qs.any fun kv => decide (kv.1 = kf k)) := by simp [e']
      rw [a1]
      by_cases hb : (qs.any fun kv => decide (kv.1 = kf k)) = true
      · rw [if_pos hb] at ih ⊢
        rw [List.map_cons, if_neg e']
        exact .cons hx ih
      · rw [if_neg hb] at ih ⊢
        exact .cons hx ih
end
abbrev kT (k : List Int) : List L2.Key := k.map Sum.inl
theorem kT_inj : ∀ a b : List Int, kT a = kT b → a = b
  | [], [], _ => rfl
  | [], _ :: _, h => nomatch h
  | _ :: _, [], h => nomatch h
  | x :: a, y :: b, h => by
    simp only [kT, List.map_cons, List.cons.injEq, Sum.inl.injEq] at h
    rw [h.1, kT_inj a b h.2]
theorem kT_V (k : List Int) : (kT k).map kV = k.map V.int := by rw [kT, List.map_map]; rfl
abbrev kM (m : Nat) : L2.Key := Sum.inl (m : Int)
theorem kM_inj (a b : Nat) (h : kM a = kM b) : a = b := by
  have h := Sum.inl.inj h
  omega
section
variable {K : PySem.W.Frag} {σ : L2.St} {H H' : Hp} {te : TE} {D : Ends}
/-- later.get(key, ()) of a table with tuples for keys -/
theorem evd_tgetT {L k : Nat} {a b : Addr} {kvs : List (List L2.Key × V)} {t : List (List Int × Poly)} {key : List Int} (hL : σ[L]? = some (some (.ref a))) (ha : H a = some (.dT kvs)) (tb : TabG kT K H kvs t) (hk : σ[k]? = some (some (.ref b))) (hb : H b = some (.tup (key.map V.int))) :
    EvD K (tDGet2 (tVar L) (tVar k) (tTup tNil)) σ H (polyD (SF.tget t key)) := fun H1 e1 Q q => by
  refine ⟨_, hL, a, rfl, .inr ⟨kvs, .inl (e1 _ _ ha)⟩, _, hk, by show 0 ≤ sizeLine; exact Nat.zero_le _, fun p np => ?_⟩
  have e2 : Same H1 (upd H1 p (.tup [])) := same_new np
  refine ⟨_, DGet.t (e2 _ _ (e1 _ _ ha)) (k := kT key) (by rw [kT_V]; exact e2 _ _ (e1 _ _ hb)), ?_⟩
  obtain ⟨g1, g2⟩ := TabG.get kT_inj tb key
  cases hv : valV kvs (kT key) with
  | none =>
    refine q _ _ e2 ?_
    rw [g2 hv]
    exact .tup (.inl (.inl upd_same)) .nil
  | some v => exact q _ _ e2 (dp_same (e1.trans e2) (g1 v hv))
theorem evd_tgetK {L k : Nat} {a : Addr} {kvs : List (L2.Key × V)} {t : List (Nat × Poly)} {m : Nat} (hL : σ[L]? = some (some (.ref a))) (ha : H a = some (.dK kvs)) (tb : TabG kM K H kvs t) (hk : σ[k]? = some (some (.int (m : Int)))) :
    EvD K (tDGet2 (tVar L) (tVar k) (tTup tNil)) σ H (polyD (SF.tget t m)) := fun H1 e1 Q q => by
  refine ⟨_, hL, a, rfl, .inl ⟨kvs, .inl (e1 _ _ ha)⟩, _, hk, by show 0 ≤ sizeLine; exact Nat.zero_le _, fun p np => ?_⟩
  have e2 : Same H1 (upd H1 p (.tup [])) := same_new np
  refine ⟨_, DGet.k (k := kM m) (e2 _ _ (e1 _ _ ha)), ?_⟩
  obtain ⟨g1, g2⟩ := TabG.get kM_inj tb m
  cases hv : valV kvs (kM m) with
  | none =>
    refine q _ _ e2 ?_
    rw [g2 hv]
    exact .tup (.inl (.inl upd_same)) .nil
  | some v => exact q _ _ e2 (dp_same (e1.trans e2) (g1 v hv))
/-- later[key] = plus(later.get(key, ()), e) -/
theorem s_taddT {L k : Nat} {a b : Addr} {kvs : List (List L2.Key × V)} {t : List (List Int × Poly)} {key : List Int} {q : Poly} {E : XK} (hL : σ[L]? = some (some (.ref a))) (ha : H a = some (.dT kvs)) (tb : TabG kT K H kvs t) (nd : (t.map (·.1)).Nodup) (hz : kvs.length < sizeLine)
    (hk : σ[k]? = some (some (.ref b))) (hb : H b = some (.tup (key.map V.int))) (hq : EvD K te σ H (polyD q)) (hl : (SF.tget t key).length + q.length < sizeLine)
    (nx : ∀ H' kvs', Same H H' → TabG kT K (upd H' a (.dT kvs')) kvs' (SF.tadd t key q) → D.nx σ (upd H' a (.dT kvs'))) :
    sDPut (tVar L) (tVar k) (tCall (spD K domPlus) [] E (tCons (tDGet2 (tVar L) (tVar k) (tTup tNil)) (tCons te tNil))) D σ H := by
  refine (evd_call (K := K) (d := polyD (SF.plus (SF.tget t key) q)) (ead_cons (evd_tgetT hL ha tb hk hb) (ead_cons hq ead_nil)) ⟨_, _, rfl, hl, rfl⟩).go fun v H1 e1 p1 => ?_
  refine ⟨_, hL, _, hk, a, _, rfl, DPut.t (e1 _ _ ha) (k := kT key) (by rw [kT_V]; exact e1 _ _ hb) hz, nx H1 _ e1 ?_⟩
  exact (TabG.put kT_inj (tb.up (.of e1)) key nd p1).up (.upd (e1 _ _ ha) rfl)
theorem s_taddK {L k : Nat} {a : Addr} {kvs : List (L2.Key × V)} {t : List (Nat × Poly)} {m : Nat} {q : Poly} {E : XK} (hL : σ[L]? = some (some (.ref a))) (ha : H a = some (.dK kvs)) (tb : TabG kM K H kvs t) (nd : (t.map (·.1)).Nodup) (hz : kvs.length < sizeLine)
    (hk : σ[k]? = some (some (.int (m : Int)))) (hq : EvD K te σ H (polyD q)) (hl : (SF.tget t m).length + q.length < sizeLine)
    (nx : ∀ H' kvs', Same H H' → TabG kM K (upd H' a (.dK kvs')) kvs' (SF.tadd t m q) → D.nx σ (upd H' a (.dK kvs'))) :
    sDPut (tVar L) (tVar k) (tCall (spD K domPlus) [] E (tCons (tDGet2 (tVar L) (tVar k) (tTup tNil)) (tCons te tNil))) D σ H := by
  refine (evd_call (K := K) (d := polyD (SF.plus (SF.tget t m) q)) (ead_cons (evd_tgetK hL ha tb hk) (ead_cons hq ead_nil)) ⟨_, _, rfl, hl, rfl⟩).go fun v H1 e1 p1 => ?_
  refine ⟨_, hL, _, hk, a, _, rfl, DPut.k (k := kM m) (e1 _ _ ha) hz, nx H1 _ e1 ?_⟩
  exact (TabG.put kM_inj (tb.up (.of e1)) m nd p1).up (.upd (e1 _ _ ha) rfl)
end
end SFW

set_option maxRecDepth 100000
set_option maxHeartbeats 4000000
/-! # Walks of locked dicts; what the transfer keeps in the heap -/
namespace SFW
open PySem PySem.Spec PyProof.Rows L2
open SF (Poly)
section
variable {K : PySem.W.Frag} {σ : L2.St} {H H' : Hp} {d : Addr} {o : Obj}
theorem walkL_keys {kvs : List (L2.Key × V)} (h : H d = some (.frz o (.dK kvs))) : WalkL (Itk d o kvs) kvs H (fun kv x _ => x = kV kv.1) (fun H' => H' d = some (.frz o (.dK kvs))) (fun i H x H' => H' = H ∧ ∃ k v, kvs[i]? = some (k, v) ∧ x = kV k) where
  w := walk_keys
  g := fun H3 e => e _ _ h
  y := fun i kv H3 x H4 hk e y => by
    obtain ⟨rfl, k, v, hk', rfl⟩ := y
    rw [hk] at hk'; cases hk'
    exact ⟨Same.refl _, rfl⟩
theorem walkL_values {kvs : List (L2.Key × V)} (h : H d = some (.frz o (.dK kvs))) : WalkL (Itd d o kvs) kvs H (fun kv x _ => x = kv.2) (fun H' => H' d = some (.frz o (.dK kvs))) (fun i H x H' => H' = H ∧ ∃ k, kvs[i]? = some (k, x)) where
  w := walk_values
  g := fun H3 e => e _ _ h
  y := fun i kv H3 x H4 hk e y => by
    obtain ⟨rfl, k, hk'⟩ := y
    rw [hk] at hk'; cases hk'
    exact ⟨Same.refl _, rfl⟩
theorem walkL_items {kvs : List (L2.Key × V)} (h : H d = some (.frz o (.dK kvs))) : WalkL (Iti d o kvs) kvs H (fun kv x H' => ∃ T, x = .ref T ∧ H' T = some (.tup [kV kv.1, kv.2])) (fun H' => H' d = some (.frz o (.dK kvs)))
    (YPair (fun i => kvs[i]?.map fun kv => kV kv.1) (fun i => kvs[i]?.map Prod.snd)) where
  w := walk_items
  g := fun H3 e => e _ _ h
  y := fun i kv H3 x H4 hk e y => by
    obtain ⟨T, a, b, rfl, nT, rfl, h1, h2⟩ := y
    dsimp only at h1 h2
    rw [hk] at h1 h2; cases h1; cases h2
    exact ⟨same_new nT, T, rfl, upd_same⟩
theorem walkL_itemsT {kvs : List (List L2.Key × V)} (h : H d = some (.frz o (.dT kvs))) : WalkL (Itit d o kvs) kvs H (fun kv x H' => ∃ T q, x = .ref T ∧ H' T = some (.tup [.ref q, kv.2]) ∧ H' q = some (.tup (kv.1.map kV))) (fun H' => H' d = some (.frz o (.dT kvs)))
    (fun i H x H' => ∃ T k v q, kvs[i]? = some (k, v) ∧ x = .ref T ∧ H T = none ∧ H q = some (.tup (k.map kV)) ∧ H' = upd H T (.tup [.ref q, v])) where
  w := walk_itemsT
  g := fun H3 e => e _ _ h
  y := fun i kv H3 x H4 hk e y => by
    obtain ⟨T, k, v, q, hk', rfl, nT, hq, rfl⟩ := y
    rw [hk] at hk'; cases hk'
    exact ⟨same_new nT, T, q, rfl, upd_same, same_new nT _ _ hq⟩
theorem rd_lock {u v : HO} {a : Addr} {od : Obj} (h : H d = some u) (n : noSeq u = true) (r : Rd H a v) (nv : ∀ o w, v ≠ .frz o w) : Rd (upd H d (.frz od u)) a v := by
  by_cases z : a = d
  · subst z
    rcases r with r | ⟨o', r⟩
    · rw [h] at r; cases r
      exact .inr ⟨od, upd_same⟩
    · rw [h] at r; cases r
      cases n
  · rcases r with r | ⟨o', r⟩
    · exact .inl (by rw [upd_ne z]; exact r)
    · exact .inr ⟨o', by rw [upd_ne z]; exact r⟩
end
/-! ### the vertices' neighbours, the vertices inside, the kept spins -/
section
variable {K : PySem.W.Frag} {σ : L2.St} {H H' : Hp}
abbrev nkv (es : List SF.Edge) (x : Nat) : List (L2.Key × V) := (SF.nearL es x).map fun y => (kM y.1, V.int y.2)
def NearAt (K : PySem.W.Frag) (H : Hp) (v : V) (es : List SF.Edge) (n : Nat) : Prop := ∃ (a : Addr) (ps : List Addr), v = .ref a ∧ H a = some (.lst (ps.map V.ref)) ∧ ps.length = n ∧ ∀ (x : Nat) (p : Addr), ps[x]? = some p → H p = some (.dK (nkv es x))
def InsAt (H : Hp) (v : V) (ins : List Nat) : Prop := ∃ a kvs, v = .ref a ∧ Rd H a (.dK kvs) ∧ kvs.map (·.1) = ins.map kM
def KeptAt (H : Hp) (v : V) (fr : List Nat) (key : List Int) : Prop := ∃ a, v = .ref a ∧ H a = some (.dK ((fr.zip key).map fun x => (kM x.1, V.int x.2)))
theorem NearAt.same {v : V} {es : List SF.Edge} {n : Nat} (e : Same H H') (x : NearAt K H v es n) : NearAt K H' v es n := let ⟨a, ps, e1, e2, e3, e4⟩ := x; ⟨a, ps, e1, e _ _ e2, e3, fun y p h => e _ _ (e4 y p h)⟩
theorem InsAt.same {v : V} {ins : List Nat} (e : Same H H') (x : InsAt H v ins) : InsAt H' v ins := let ⟨a, kvs, e1, e2, e3⟩ := x; ⟨a, kvs, e1, rd_same e e2, e3⟩
theorem KeptAt.same {v : V} {fr : List Nat} {key : List Int} (e : Same H H') (x : KeptAt H v fr key) : KeptAt H' v fr key := let ⟨a, e1, e2⟩ := x; ⟨a, e1, e _ _ e2⟩
theorem InsAt.lock {v : V} {ins : List Nat} {d : Addr} {u : HO} {od : Obj} (h : H d = some u) (n : noSeq u = true) (x : InsAt H v ins) : InsAt (upd H d (.frz od u)) v ins := let ⟨a, kvs, e1, e2, e3⟩ := x; ⟨a, kvs, e1, rd_lock h n e2 (fun _ _ z => nomatch z), e3⟩
theorem isSome_mem {kvs : List (L2.Key × V)} {ins : List Nat} (h : kvs.map (·.1) = ins.map kM) (u : Nat) : (valV kvs (kM u)).isSome = decide (u ∈ ins) := by
  have m : kM u ∈ kvs.map (·.1) ↔ u ∈ ins := by
    rw [h, List.mem_map]
    exact ⟨fun ⟨a, ha, e⟩ => kM_inj _ _ e ▸ ha, fun h => ⟨u, h, rfl⟩⟩
  cases hv : valV kvs (kM u) with
  | some v => simp [m.mp (valV_in hv)]
  | none =>
    have := valV_not hv
    have : ¬ u ∈ ins := fun z => this (m.mpr z)
    simp [this]
theorem near_snoc (es : List SF.Edge) (e : SF.Edge) (x : Nat) : SF.nearL (es ++ [e]) x = SF.nearL es x ++ if e.1 = x then [(e.2.1, e.2.2)] else if e.2.1 = x then [(e.1, e.2.2)] else [] := by
  induction es with
  | nil => simp [SF.nearL]
  | cons a r ih =>
    simp only [List.cons_append, SF.nearL]
    by_cases h1 : a.1 = x
    · rw [if_pos h1, if_pos h1, ih]; rfl
    · rw [if_neg h1, if_neg h1]
      by_cases h2 : a.2.1 = x
      · rw [if_pos h2, if_pos h2, ih]; rfl
      · rw [if_neg h2, if_neg h2, ih]
theorem near_len (es : List SF.Edge) (x : Nat) : (SF.nearL es x).length ≤ es.length := by
  induction es with
  | nil => exact Nat.le_refl _
  | cons a r ih =>
    show (if a.1 = x then _ else if a.2.1 = x then _ else _ : List (Nat × Int)).length ≤ r.length + 1
    split
    · exact Nat.succ_le_succ ih
    · split
      · exact Nat.succ_le_succ ih
      · exact Nat.le_succ_of_le ih
theorem nkv_keys (es : List SF.Edge) (x : Nat) : (nkv es x).map (·.1) = ((SF.nearL es x).map (·.1)).map kM := by rw [List.map_map, List.map_map]; rfl
/-- the value at a neighbour -/
theorem nkv_look {l : List (Nat × Int)} (u : Nat) (hu : u ∈ l.map (·.1)) : valV (l.map fun y => (kM y.1, V.int y.2)) (kM u) = some (.int (SF.lookN l u)) := by
  induction l with
  | nil => cases hu
  | cons a r ih =>
    rw [List.map_cons]
    unfold SF.lookN
    by_cases h : a.1 = u
    · rw [valV_pos (by rw [h]), if_pos h]
    · rw [valV_neg (fun z => h (kM_inj _ _ z)), if_neg h]
      refine ih ?_
      rw [List.map_cons, List.mem_cons] at hu
      rcases hu with z | z
      · exact absurd z.symm h
      · exact z
/-- one edge's two stores -/
theorem put_near {es : List SF.Edge} {x y : Nat} {j : Int} (h : y ∉ (SF.nearL es x).map (·.1)) : putK (nkv es x) (kM y) (.int j) = (SF.nearL es x ++ [(y, j)]).map fun y => (kM y.1, V.int y.2) := by
  rw [putK_new, List.map_append]; rfl
  cases hv : valV (nkv es x) (kM y) with
  | none => rfl
  | some v =>
    have := valV_in hv
    rw [nkv_keys, List.mem_map] at this
    obtain ⟨z, hz, e⟩ := this
    exact absurd (kM_inj _ _ e ▸ hz) h
end
end SFW

set_option maxRecDepth 100000
set_option maxHeartbeats 4000000
/-! # check_order, near_of, frontier_of, paid_beside -/
namespace SFW
open PySem PySem.Spec PyProof.Rows L2
open SF (Poly)
abbrev sOrder : Stmt := topS 35
abbrev sNear : Stmt := topS 36
abbrev sFront : Stmt := topS 37
abbrev sPaid : Stmt := topS 38
abbrev natD (v : Nat) : PyData := .int (v : Int)
theorem scOrder : FnScope ["spins", "order"] ["spins", "order"] (defScope sOrder) := ⟨rfl, rfl, rfl, by decide +kernel, rfl, by decide +kernel, by decide +kernel⟩
abbrev nNear : List Str := ["spins", "near", "u", "v", "coupling", "_"]
theorem scNear : FnScope nNear ["spins"] (defScope sNear) := ⟨rfl, rfl, rfl, by decide +kernel, rfl, by decide +kernel, by decide +kernel⟩
abbrev nFront : List Str := ["near", "inside", "vertex", "other"]
theorem scFront : FnScope nFront ["near", "inside"] (defScope sFront) := ⟨rfl, rfl, rfl, by decide +kernel, rfl, by decide +kernel, by decide +kernel⟩
abbrev nPaid : List Str := ["spins", "near", "kept", "vertex", "spin", "paid", "other", "own"]
theorem scPaid : FnScope nPaid ["spins", "near", "kept", "vertex", "spin"] (defScope sPaid) := ⟨rfl, rfl, rfl, by decide +kernel, rfl, by decide +kernel, by decide +kernel⟩
/-- two ascending lists with the same members -/
theorem asc_uniq : ∀ {l m : List Int}, l.Perm m → l.Pairwise (· ≤ ·) → m.Pairwise (· ≤ ·) → l = m
  | [], m, p, _, _ => (List.nil_perm.mp p).symm
  | a :: l, [], p, _, _ => nomatch (List.perm_nil.mp p)
  | a :: l, b :: m, p, h1, h2 => by
    rw [List.pairwise_cons] at h1 h2
    have e : a = b := by
      have ha : a ∈ b :: m := p.mem_iff.mp List.mem_cons_self
      have hb : b ∈ a :: l := p.mem_iff.mpr List.mem_cons_self
      have x1 : b ≤ a := by
        rcases List.mem_cons.mp ha with z | z
        · omega
        · exact h2.1 _ z
      have x2 : a ≤ b := by
        rcases List.mem_cons.mp hb with z | z
        · omega
        · exact h1.1 _ z
      omega
    subst e
    rw [asc_uniq ((List.perm_cons a).mp p) h1.2 h2.2]
theorem nodup_ix_of {α : Type} {l : List α} (hN : l.Nodup) {i j : Nat} {x : α} (a : l[i]? = some x) (b : l[j]? = some x) : i = j := nd_ix hN a b
theorem natsAll {K : PySem.W.Frag} {H : Hp} : ∀ vs : List Nat, DpAll K H (vs.map (V.int ∘ fun (v : Nat) => (v : Int))) (vs.map natD)
  | [] => .nil
  | v :: vs => .cons (.int _) (natsAll vs)
theorem rangeI_asc (n : Nat) : (SF.rangeI n).Pairwise (· ≤ ·) := by
  unfold SF.rangeI
  rw [List.pairwise_map]
  exact List.pairwise_lt_range.imp fun h => by omega
section
variable {K : PySem.W.Frag} {σ : L2.St} {H : Hp} {te tl : TE} {tz : TS} {D : Ends} {i : Nat} {g : TG} {tt : TT} {vs : List Nat} {Q : VK}
theorem q_asgI (h : te σ H fun v H1 => tz D (σ.set i (some v)) H1) : tSeq (tAsg te (gName i)) tz D σ H := h
theorem lc_iTup (h : tl σ H fun x H1 => ∃ a, x = .ref a ∧ (∃ xs, SqT K H1 a xs) ∧ ∀ D, H1 D = none → ∃ W : Nat → Nat → Hp → Prop, (∃ m, W 0 m (upd H1 D (.lst []))) ∧ ∀ i m H, W i m H →
    ((Itt K a).stop i H ∧ Q (.ref D) H) ∨ ((Itt K a).go i H ∧ ∃ Nx : Hp → Prop, (∀ H', Nx H' → ∃ m', m' < m ∧ W (i + 1) m' H') ∧ ∀ x H', (Itt K a).yld i H x H' → g x (wipe σ vs) H' fun σ2 H2 => wipe σ2 vs = wipe σ vs ∧ tt σ2 H2 fun b H3 =>
      if b = true then te σ2 H3 fun y H4 => ∃ acc, H4 D = some (.lst acc) ∧ acc.length < sizeLine ∧ Nx (upd H4 D (.lst (acc ++ [y]))) else Nx H3)) : tLc (iTup K tl) g tt te vs σ H Q := h
theorem lc_iList (h : tl σ H fun x H1 => ∃ a, x = .ref a ∧ (∃ xs, SqL K H1 a xs) ∧ ∀ D, H1 D = none → ∃ W : Nat → Nat → Hp → Prop, (∃ m, W 0 m (upd H1 D (.lst []))) ∧ ∀ i m H, W i m H →
    ((Itl K a).stop i H ∧ Q (.ref D) H) ∨ ((Itl K a).go i H ∧ ∃ Nx : Hp → Prop, (∀ H', Nx H' → ∃ m', m' < m ∧ W (i + 1) m' H') ∧ ∀ x H', (Itl K a).yld i H x H' → g x (wipe σ vs) H' fun σ2 H2 => wipe σ2 vs = wipe σ vs ∧ tt σ2 H2 fun b H3 =>
      if b = true then te σ2 H3 fun y H4 => ∃ acc, H4 D = some (.lst acc) ∧ acc.length < sizeLine ∧ Nx (upd H4 D (.lst (acc ++ [y]))) else Nx H3)) : tLc (iList K tl) g tt te vs σ H Q := h
end
section
variable {P : Program} {w : World} {K : PySem.W.Frag} {mg : Str → Option Value} {base : Heap} {C : Addr}
/-- check_order(spins, order) of an order -/
def spOrder (K : PySem.W.Frag) (C : Addr) : Sp := fun vs H Q _ => ∃ (v ov : V) (h : List Int) (es : List SF.Edge) (order : List Nat), vs = [v, ov] ∧ SpinsAt K C H v h es ∧ Dp K H ov (.list (order.map natD)) ∧ order.Perm (List.range h.length) ∧ h.length ≤ 6 ∧ ∀ H', Same H H' → Q .non H'
theorem ok_order {f : Addr} {fd : FuncData} (F : Fun K "check_order" "check_order" sOrder f fd) (T : SpinTxt K C) (ms : mg "sorted" = none) (ml : mg "list" = none) (mr : mg "range" = none) (mn : mg "len" = none) : FnOk P w K mg base CX0 1 f fd ["spins", "order"] (spOrder K C) := by
  refine F.ok scOrder (fun vs H Q E h => ?_) (fun cdv A outer s H vs Q E hr h => ?_)
  · obtain ⟨v, ov, h, es, order, rfl, _⟩ := h; rfl
  · obtain ⟨v, ov, h, es, order, rfl, S, ho, perm, hl, k⟩ := h
    refine ⟨_, pss_one (ps_if (pt_cmpR (op_neD hr.units) (pe_callB cr_sorted (by rfl) ms b_sorted (pa_cons (pv 1) pa_nil)) (pe_listRg rfl (by rfl) ml (prg_1 (by rfl) mr (pe_callB call_len_seq (by rfl) mn b_len (pa_cons (pe_fld (pv 0) rfl) pa_nil)))) (nomark _)) pss_never pss_nil), ?_⟩
    have e1 : order.map natD = (order.map fun (v : Nat) => (v : Int)).map PyData.int := by rw [List.map_map]; rfl
    rw [e1] at ho
    have ol : order.length = h.length := by have := perm.length_eq; simpa using this
    have srt : EvD K (tCB (rSorted K) (tCons (tVar 1) tNil)) (start ["spins", "order"] [v, ov]) H (.list ((SF.rangeI h.length).map PyData.int)) := fun H1 e Q1 q1 => by
      obtain ⟨a, xs, rfl, h1, h2⟩ := dp_lst (dp_same e ho)
      rw [dpa_ints h2] at h1
      refine ⟨_, rfl, a, _, rfl, h1, by rw [List.length_map]; omega, fun ns p pm asc np => ?_⟩
      have en : ns = SF.rangeI h.length := asc_uniq (pm.trans (perm.map _)) asc (rangeI_asc _)
      subst en
      exact q1 _ _ (same_new np) (ints_list upd_same)
    have rng : EvD K (tLstRg (tRg1 (tCB (rLenS K) (tCons (tFld K (tVar 0) "fields") tNil)))) (start ["spins", "order"] [v, ov]) H (.list ((SF.rangeI h.length).map PyData.int)) := by
      have := evd_rangeL (σ := start ["spins", "order"] [v, ov]) (H := H) (n := h.length) ((evv_lenT (evd_fields (i := 0) T rfl S)).vis (by rw [List.length_map])) (by omega)
      exact this.imp fun u H' e ⟨a, ea, _, ha⟩ => by rw [ea]; exact ints_list ha
    refine s_when (b := false) ((evb_test (evv_neD srt rng (shaped_ints _) (shaped_ints _))).is (by rw [eqv_ints]; simp)) (fun z => nomatch z) fun _ H1 e1 => ?_
    exact k H1 e1
/-- near_of(spins) -/
def spNear (K : PySem.W.Frag) (C : Addr) : Sp := fun vs H Q _ => ∃ v h es, vs = [v] ∧ SpinsAt K C H v h es ∧ SF.Wf h es ∧ ∀ u H', Same H H' → NearAt K H' u es h.length → Q u H'
theorem ok_near {f : Addr} {fd : FuncData} (F : Fun K "near_of" "near_of" sNear f fd) (T : SpinTxt K C) : FnOk P w K mg base CX0 1 f fd ["spins"] (spNear K C) := by
  refine F.ok scNear (fun vs H Q E h => ?_) (fun cdv A outer s H vs Q E hr h => ?_)
  · obtain ⟨v, h, es, rfl, _⟩ := h; rfl
  · obtain ⟨v, h, es, rfl, S, wf, k⟩ := h
    have hu := hu_of hr
    refine ⟨_, pss_cons (ps_setLc (i := 1) (own := [("_", 5)]) (g := gName 5) (tt := tYes) (te := tDNewK) rfl scNear.nd rfl rfl (sw_true rfl rfl rfl (by decide +kernel)) (pi_tup (pe_fld (pv 0) rfl)) (blkOk_by (N := nNear) (sc := defScope sNear) (by decide +kernel)) (fun _ _ _ _ _ => pg_name (i := 5) scNear.nd rfl (.inl rfl)) (fun _ _ _ _ _ => pts_nil) (fun _ _ _ _ _ => pe_dnewK))
      (pss_cons (ps_for PassesOwn.never rfl (pi_tup (pe_fld (pv 0) rfl)) (pg_tup rfl (pgs_cons (pg_name (i := 2) scNear.nd rfl (.inl rfl)) (pgs_cons (pg_name (i := 3) scNear.nd rfl (.inl rfl)) (pgs_cons (pg_name (i := 4) scNear.nd rfl (.inl rfl)) pgs_nil))))
        (pss_cons (ps_dput hu (pe_ix ix_list (pv 1) (pv 2) (fun _ _ => rfl)) (pv 3) (pv 4) rfl) (pss_one (ps_dput hu (pe_ix ix_list (pv 1) (pv 3) (fun _ _ => rfl)) (pv 2) (pv 4) rfl))))
      (pss_one (ps_ret (pv 1)))), ?_⟩
    refine q_asgI (lc_iTup ?_)
    refine (evd_fields (σ := start nNear [v]) (i := 0) T rfl S).go fun fv H1 e1 p1 => ?_
    obtain ⟨fa, xs, rfl, hf, hx⟩ := dp_tup p1
    have xl : xs.length = h.length := by rw [dpa_len hx, List.length_map]
    refine ⟨fa, rfl, ⟨xs, hf⟩, fun D nD => lc_tup (K := K) (a := fa) (xs := xs) (fun i H' => Same H1 H' ∧ ∃ ps : List Addr, ps.length = i ∧ ps.Nodup ∧ (∀ p ∈ ps, H1 p = none ∧ p ≠ D ∧ H' p = some (.dK [])) ∧ H' D = some (.lst (ps.map V.ref)))
      ⟨same_new nD, [], rfl, List.nodup_nil, (fun p hp => nomatch hp), upd_same⟩ (fun i H' _ p => sqt_same p.1 hf) (fun i x H' hx' p => ?_) fun H' p => ?_⟩
    · obtain ⟨sm, ps, pl, nd, hps, hD⟩ := p
      refine ⟨wipe_set1 _ _ _, ?_⟩
      unfold tYes
      dsimp only
      rw [if_pos rfl]
      intro q nq
      refine ⟨ps.map V.ref, by rw [upd_ne (ne_of_none hD nq)]; exact hD, ?_, ?_⟩
      · have hi : i < xs.length := (List.getElem?_eq_some_iff.mp hx').1
        have := wf.hi
        rw [List.length_map, sizeLine_eq]; omega
      · have qD : D ≠ q := ne_of_none hD nq
        have q1 : H1 q = none := sm.free nq
        refine ⟨fun b o hb => ?_, ps ++ [q], by simp [pl], ?_, fun p hp => ?_, by rw [upd_same, List.map_append]; rfl⟩
        · rw [upd_ne (ne_of_none hb nD), upd_ne (ne_of_none hb q1)]
          exact sm _ _ hb
        · rw [List.nodup_append]
          refine ⟨nd, by simp, fun a ha b hb => ?_⟩
          have : b = q := by simpa using hb
          subst this
          exact ne_of_none (hps a ha).2.2 nq
        · rcases List.mem_append.mp hp with hp | hp
          · obtain ⟨a1, a2, a3⟩ := hps p hp
            exact ⟨a1, a2, by rw [upd_ne a2, upd_ne (ne_of_none a3 nq)]; exact a3⟩
          · have : p = q := by simpa using hp
            subst this
            exact ⟨q1, qD.symm, by rw [upd_ne qD.symm, upd_same]⟩
    · obtain ⟨sm, ps, pl, nd, hps, hD⟩ := p
      rw [xl] at pl
      have nD0 : H D = none := e1.free nD
      have np0 : ∀ p ∈ ps, H p = none := fun p hp => e1.free (hps p hp).1
      have S1 : SpinsAt K C H' v h es := S.same (e1.trans sm)
      obtain ⟨sa, dx, fv, ev, rfl, hs1, hs2, hs3⟩ := S
      obtain ⟨ea, exs, rfl, he1, he2⟩ := dp_tup hs3
      refine q_for (Hb := H) (l := es) (J := Itt K ea) (fun R r => ⟨_, rfl, sa, C, dx, _, _, rfl, (e1.trans sm) _ _ hs1, T.cl, T.ne, spinF_e _ _, ea, rfl, ⟨exs, sqt_same (e1.trans sm) he1⟩, r⟩) (walkL_tup he1 he2).map
        (fun i σ' H' => ∃ y2 y3 y4, σ' = [some (.ref sa), some (.ref D), y2, y3, y4, none] ∧ Same H H' ∧ H' D = some (.lst (ps.map V.ref)) ∧ ∀ (x : Nat) (p : Addr), ps[x]? = some p → H' p = some (.dK (nkv (es.take i) x)))
        ⟨none, none, none, rfl, e1.trans sm, hD, fun x p hp => (hps p (List.mem_of_getElem? hp)).2.2⟩ (fun i σ' H' ⟨_, _, _, _, sm, _⟩ => sm) (fun i e x σ' H' H'' he pv' e3 yd => ?_) (fun σ' H' pv' => ?_)
      · obtain ⟨y2, y3, y4, rfl, sm', hD', hp'⟩ := pv'
        obtain ⟨pa, xu, xv, xj, rfl, h1, h2, h3, h4⟩ := dp_triple yd
        cases dp_int h2
        cases dp_int h3
        cases dp_int h4
        refine ⟨pa, _, rfl, h1, rfl, _, _, rfl, _, _, rfl, _, _, rfl, rfl, ?_⟩
        have em : e ∈ es := List.mem_of_getElem? he
        have lt := wf.lt e em
        have hi : i < es.length := (List.getElem?_eq_some_iff.mp he).1
        have u1 : e.1 < ps.length := by omega
        have v1 : e.2.1 < ps.length := by omega
        have gu : ps[e.1]? = some ps[e.1] := List.getElem?_eq_getElem u1
        have gv : ps[e.2.1]? = some ps[e.2.1] := List.getElem?_eq_getElem v1
        have huv : ps[e.1] ≠ ps[e.2.1] := fun z => by
          have := nodup_ix_of nd gu (z ▸ gv)
          omega
        have tk : es.take (i + 1) = es.take i ++ [e] := take_next he
        have ndx : ∀ x, ((SF.nearL (es.take i ++ [e]) x).map (·.1)).Nodup := fun x => by
          rw [← tk]
          exact SF.near_nd (fun e he => (wf.lt e (List.mem_of_mem_take he)).1) (wf.asc.sublist (List.take_sublist _ _)) x
        have nu : e.2.1 ∉ (SF.nearL (es.take i) e.1).map (·.1) := fun z => by
          have := ndx e.1
          rw [near_snoc, if_pos rfl, List.map_append, List.nodup_append] at this
          exact this.2.2 _ z _ (by simp) rfl
        have nv : e.1 ∉ (SF.nearL (es.take i) e.2.1).map (·.1) := fun z => by
          have := ndx e.2.1
          rw [near_snoc, if_neg (by omega), if_pos rfl, List.map_append, List.nodup_append] at this
          exact this.2.2 _ z _ (by simp) rfl
        have hD'' := e3 _ _ hD'
        have hl1 : ∀ x, (nkv (es.take i) x).length < sizeLine := fun x => by
          have := near_len (es.take i) x
          have := wf.few
          rw [List.length_map, sizeLine_eq]
          rw [List.length_take] at *
          omega
        have uD : ps[e.1] ≠ D := (hps _ (List.getElem_mem u1)).2.1
        have vD : ps[e.2.1] ≠ D := (hps _ (List.getElem_mem v1)).2.1
        have g1 : (ps.map V.ref)[e.1]? = some (.ref ps[e.1]) := by rw [List.getElem?_map, gu]; rfl
        have g2 : (ps.map V.ref)[e.2.1]? = some (.ref ps[e.2.1]) := by rw [List.getElem?_map, gv]; rfl
        refine ⟨_, rfl, _, rfl, _, rfl, D, _, _, _, rfl, rfl, .inl (.inl hD''), atI_nat g1, _, rfl, ps[e.1], _, rfl, DPut.k (k := kM e.2.1) (e3 _ _ (hp' _ _ gu)) (hl1 _), ?_⟩
        refine ⟨_, rfl, _, rfl, _, rfl, D, _, _, _, rfl, rfl, .inl (.inl (by rw [upd_ne uD.symm]; exact hD'')), atI_nat g2, _, rfl, ps[e.2.1], _, rfl, DPut.k (k := kM e.1) (kvs := nkv (es.take i) e.2.1) (by rw [upd_ne huv.symm]; exact e3 _ _ (hp' _ _ gv)) (hl1 _), ?_⟩
        refine ⟨_, _, _, rfl, fun b o hb => ?_, ?_, fun x p hp => ?_⟩
        · rw [upd_ne (ne_of_none hb (np0 _ (List.getElem_mem v1))), upd_ne (ne_of_none hb (np0 _ (List.getElem_mem u1)))]
          exact e3 _ _ (sm' _ _ hb)
        · rw [upd_ne vD.symm, upd_ne uD.symm]; exact hD''
        · have ex : nkv (es.take (i + 1)) x = (SF.nearL (es.take i) x ++ if e.1 = x then [(e.2.1, e.2.2)] else if e.2.1 = x then [(e.1, e.2.2)] else []).map fun y => (kM y.1, V.int y.2) := by
            unfold nkv
            rw [tk, near_snoc]
          rw [ex]
          by_cases xu : x = e.1
          · subst xu
            rw [gu] at hp; cases hp
            rw [if_pos rfl, upd_ne huv, upd_same, ← put_near nu]
          · by_cases xv : x = e.2.1
            · subst xv
              rw [gv] at hp; cases hp
              rw [if_neg (by omega), if_pos rfl, upd_same, ← put_near nv]
            · have nx1 : p ≠ ps[e.1] := fun z => xu (nodup_ix_of nd hp (z ▸ gu))
              have nx2 : p ≠ ps[e.2.1] := fun z => xv (nodup_ix_of nd hp (z ▸ gv))
              rw [if_neg (fun z => xu z.symm), if_neg (fun z => xv z.symm), List.append_nil, upd_ne nx2, upd_ne nx1]
              exact e3 _ _ (hp' _ _ hp)
      · obtain ⟨y2, y3, y4, rfl, sm', hD', hp'⟩ := pv'
        rw [List.take_length] at hp'
        refine ⟨_, rfl, k _ _ sm' ⟨D, ps, rfl, hD', pl, hp'⟩⟩
/-- the outer block's scope in frontier_of -/
abbrev blkFront : Scope := { kind := .function, names := [(".0", .local), ("vertex", .local), ("any", .globalImplicit), ("inside", .free), ("near", .free)], isGenerator := false, isCoroutine := false }
/-- near[vertex], the dict -/
theorem evv_nearR {σ : L2.St} {H : Hp} {n k : Nat} {a : Addr} {ps : List Addr} {x : Nat} {p : Addr} (h1 : σ[n]? = some (some (.ref a))) (h2 : Rd H a (.lst (ps.map V.ref))) (h3 : σ[k]? = some (some (.int (x : Int)))) (h4 : ps[x]? = some p) : EvV (tOp (rIxL K) (tVar n) (tVar k)) σ H (.ref p) := fun H1 e Q q =>
  ⟨_, h1, _, h3, a, _, _, _, rfl, rfl, .inl (rd_same e h2), atI_nat (by rw [List.getElem?_map, h4]; rfl), q _ _ (Same.refl _) rfl⟩
/-- the keys of a locked dict of neighbours -/
theorem src_nkeys {σ : L2.St} {H : Hp} {td : TE} {d : Addr} {od : Obj} {l : List (Nat × Int)} (h : EvV td σ H (.ref d)) (hd : H d = some (.frz od (.dK (l.map fun y => (kM y.1, V.int y.2))))) : Src (iKeys td) σ H l fun y x _ => x = .int (y.1 : Int) := fun H1 e1 R k =>
  h H1 e1 _ fun v H2 e2 p2 => by
    subst p2
    exact ⟨d, od, rfl, .inl ⟨_, (e1.trans e2) _ _ hd, k _ _ e2 ⟨_, _, (walkL_keys ((e1.trans e2) _ _ hd)).map⟩⟩⟩
/-- frontier_of(near, inside) -/
def spFront (K : PySem.W.Frag) : Sp := fun vs H Q _ => ∃ (nv iv : V) (es : List SF.Edge) (n : Nat) (ins : List Nat), vs = [nv, iv] ∧ NearAt K H nv es n ∧ InsAt H iv ins ∧ ins.Nodup ∧ (∀ v ∈ ins, v < n) ∧ n ≤ 6 ∧ es.length ≤ 10 ∧
  ∀ u H' fr, Same H H' → SF.Front es ins fr → Dp K H' u (.list (fr.map natD)) → Q u H'
theorem ok_front {f : Addr} {fd : FuncData} (F : Fun K "frontier_of" "frontier_of" sFront f fd) (ms : mg "sorted" = none) (ma : mg "any" = none) : FnOk P w K mg base CX0 1 f fd ["near", "inside"] (spFront K) := by
  refine F.ok scFront (fun vs H Q E h => ?_) (fun cdv A outer s H vs Q E hr h => ?_)
  · obtain ⟨nv, iv, es, n, ins, rfl, _⟩ := h; rfl
  · obtain ⟨nv, iv, es, n, ins, rfl, N, I, nd, hn, n6, e10, k⟩ := h
    have hu := hu_of hr
    refine ⟨_, pss_one (ps_ret (pe_lc (own := [("vertex", 2)]) (g := gName 2) (tt := tB (tCB (rAny K) (tCons (tLockE (tLc (iKeys (tOp (rIxL K) (tVar 0) (tVar 2))) (gName 3) tYes (tDNotIn (tVar 3) (tVar 1)) [3])) tNil))) rfl scFront.nd
      (pi_list (pe_callB (call_sortedDI rfl) (by rfl) ms b_sorted (pa_cons (pv 1) pa_nil))) (blkOk_by (N := nFront) (sc := defScope sFront) (by decide +kernel)) (fun _ _ _ _ _ => pg_name (i := 2) scFront.nd rfl (.inl rfl))
      (fun _ _ _ _ _ => pts_one (pt_val (pe_callB (cr_any rfl) (by rfl) ma b_any (pa_cons (pe_lock (pe_lc (own := [("other", 3)]) (g := gName 3) (tt := tYes) (te := tDNotIn (tVar 3) (tVar 1)) rfl scFront.nd (pi_keys (pe_ix ix_list (pv 0) (pv 2) (fun _ _ => rfl))) (blkOk_by (N := nFront) (sc := relS blkFront (defScope sFront)) (by decide +kernel))
        (fun _ _ _ _ _ => pg_name (i := 3) scFront.nd rfl (.inl rfl)) (fun _ _ _ _ _ => pts_nil) (fun _ _ _ _ _ => pe_cmp (pc_dnotin hu (pv 3) (pv 1)) (by with_unfolding_all rfl)))) pa_nil))))
      (fun _ _ _ _ _ => pv 2))), ?_⟩
    refine s_end (Q := Q) (P := fun v H' => ∃ fr, SF.Front es ins fr ∧ Dp K H' v (.list (fr.map natD))) (fun H1 e1 Q1 q1 => ?_) fun u H' e ⟨fr, hF, hd⟩ => k u H' fr e hF hd
    obtain ⟨na, ps, rfl, hna, pl, hps⟩ := N.same e1
    obtain ⟨ia, kvs, rfl, hia, hks⟩ := I.same e1
    have insl : ins.length ≤ 6 := by
      have h1 : (ins.map fun (v : Nat) => (v : Int)).length ≤ n := SF.nodup_bd 0 n _ (List.Pairwise.map _ (fun a b h z => h (by omega)) nd) (fun x hx => by
        obtain ⟨v, hv, rfl⟩ := List.mem_map.mp hx
        have := hn v hv
        omega)
      rw [List.length_map] at h1
      omega
    refine lc_iList ⟨_, rfl, ia, kvs, ins.map fun (v : Nat) => (v : Int), rfl, hia, by rw [hks, List.map_map]; rfl, by rw [List.length_map]; omega, fun ys p pm asc np => ?_⟩
    obtain ⟨vs, pv, rfl⟩ := perm_map_back _ pm
    have e2 : Same H1 (upd H1 p (.lst ((vs.map fun (v : Nat) => (v : Int)).map V.int))) := same_new np
    refine ⟨p, rfl, ⟨_, .inl (.inl upd_same)⟩, fun D nD => ?_⟩
    have vl : vs.length ≤ 6 := by rw [pv.length_eq]; exact insl
    have hv2 : ∀ v ∈ vs, v < n := fun v hv => hn v (pv.mem_iff.mp hv)
    refine lc_run (walkL_list (K := K) (a := p) (ds := vs.map natD) (.inl (.inl upd_same)) (by rw [List.map_map]; exact natsAll vs)).map nD (by rw [sizeLine_eq]; omega) (fun v => (SF.nearL es v).any fun y => decide (y.1 ∉ ins)) (fun v u H' => Dp K H' u (natD v)) (fun v u H2 H3 e h => dp_sameT e rfl h) (fun v x H' hv e yd R kk => ?_) fun H' xs sm hD pr => ?_
    · cases dp_int yd
      have hvp : v < ps.length := by rw [pl]; exact hv2 v hv
      have gp : ps[v]? = some ps[v] := List.getElem?_eq_getElem hvp
      have hq := e _ _ (e2 _ _ (hps v _ gp))
      refine kk _ (wipe_set1 _ _ _) (evb_B ((evv_any (bs := (SF.nearL es v).map fun y => decide (y.1 ∉ ins)) ?_).vis ?_)) fun _ => evd_var rfl (.int _)
      · refine evd_lock hq True.intro rfl fun H2 od e3 => ?_
        rw [List.map_map]
        have hq2 := e3 _ _ hq
        have I2 : InsAt (upd H2 ps[v] (.frz od (.dK (nkv es v)))) (.ref ia) ins := InsAt.lock hq2 rfl ⟨ia, kvs, rfl, rd_same (e2.trans (e.trans e3)) hia, hks⟩
        obtain ⟨ia', kvs', ea, hia', hks'⟩ := I2
        cases ea
        refine evd_lcA (src_nkeys (evv_nearR rfl (rd_lock hq2 rfl (.inl (e3 _ _ (e _ _ (e2 _ _ hna)))) (fun _ _ z => nomatch z)) rfl gp) upd_same) (by have := near_len es v; rw [sizeLine_eq]; omega) _ (fun _ => rfl) fun y x H3 hy e4 yd R kk => ?_
        subst yd
        refine kk _ (wipe_set1 _ _ _) fun H4 e5 Q4 q4 => ?_
        refine ⟨_, rfl, _, rfl, _, _, rfl, .inl ⟨_, kM y.1, rd_same (e4.trans e5) hia', rfl, rfl⟩, q4 _ _ (Same.refl _) ?_⟩
        rw [isSome_mem hks']
        have : (!decide (y.1 ∈ ins)) = decide (y.1 ∉ ins) := by simp
        rw [this]
        exact .bl _
      · rw [List.any_map]; rfl
    · refine q1 _ _ (e2.trans sm) ⟨vs.filter fun v => (SF.nearL es v).any fun y => decide (y.1 ∉ ins), ⟨(pv.nodup_iff.mpr nd).filter _, fun v => ?_⟩, .lst (.inl (.inl hD)) (dpa_paired pr)⟩
      rw [List.mem_filter, pv.mem_iff, List.any_eq_true]
      simp
theorem sum_sm {α : Type} (F : α → Int) : ∀ l : List α, (l.map F).sum = SF.sm l F
  | [] => rfl
  | a :: l => by rw [List.map_cons, List.sum_cons, sum_sm F l]; rfl
/-- the pairs of a locked dict -/
theorem src_nitems {σ : L2.St} {H : Hp} {td : TE} {d : Addr} {od : Obj} {l : List (Nat × Int)} (h : EvV td σ H (.ref d)) (hd : H d = some (.frz od (.dK (l.map fun y => (kM y.1, V.int y.2))))) :
    Src (iItems td) σ H l fun y x H' => ∃ T, x = .ref T ∧ H' T = some (.tup [.int (y.1 : Int), .int y.2]) := fun H1 e1 R k =>
  h H1 e1 _ fun v H2 e2 p2 => by
    subst p2
    exact ⟨d, od, _, rfl, (e1.trans e2) _ _ hd, k _ _ e2 ⟨_, _, (walkL_items ((e1.trans e2) _ _ hd)).map⟩⟩
/-- paid_beside(spins, near, kept, vertex, spin) -/
def spPaid (K : PySem.W.Frag) (C : Addr) : Sp := fun vs H Q _ => ∃ (sv nv kv : V) (h : List Int) (es : List SF.Edge) (fr : List Nat) (key : List Int) (v : Nat) (spin : Int), vs = [sv, nv, kv, .int (v : Int), .int spin] ∧ SpinsAt K C H sv h es ∧ NearAt K H nv es h.length ∧ KeptAt H kv fr key ∧ v < h.length ∧ fr.length ≤ 6 ∧
  ∀ H', Same H H' → Q (.int (SF.paid h es fr key v spin)) H'
theorem ok_paid {f : Addr} {fd : FuncData} (F : Fun K "paid_beside" "paid_beside" sPaid f fd) (T : SpinTxt K C) (ms : mg "sum" = none) : FnOk P w K mg base CX0 1 f fd ["spins", "near", "kept", "vertex", "spin"] (spPaid K C) := by
  refine F.ok scPaid (fun vs H Q E h => ?_) (fun cdv A outer s H vs Q E hr h => ?_)
  · obtain ⟨sv, nv, kv, h, es, fr, key, v, spin, rfl, _⟩ := h; rfl
  · obtain ⟨sv, nv, kv, h, es, fr, key, v, spin, rfl, S, N, Kp, hv, fl, k⟩ := h
    have hu := hu_of hr
    refine ⟨_, pss_cons (ps_set (i := 5) scPaid.nd rfl (.inl rfl) (pe_ifExp (pt_cmpR op_eq (pv 4) pe_int (nomark _)) (pe_ix ix_tup (pe_fld (pv 0) rfl) (pv 3) (fun _ _ => rfl)) pe_int))
      (pss_one (ps_ret (pe_op op_add (pv 5) (pe_callB (cr_sum rfl) (by rfl) ms b_sum (pa_cons (pe_lock (pe_lc (own := [("other", 6), ("own", 7)]) (g := gTup K 2 (gCons (gName 6) (gCons (gName 7) gNil)))
        (tt := tAnd (tB (tDIn (tVar 6) (tOp (rIxL K) (tVar 1) (tVar 3)))) (tTest (tOp rNe (tVar 7) (tVar 4)))) (te := tDGet (tOp (rIxL K) (tVar 1) (tVar 3)) (tVar 6)) rfl scPaid.nd (pi_items (pv 2)) (blkOk_by (N := nPaid) (sc := defScope sPaid) (by decide +kernel))
        (fun _ _ _ _ _ => pg_tup rfl (pgs_cons (pg_name (i := 6) scPaid.nd rfl (.inl rfl)) (pgs_cons (pg_name (i := 7) scPaid.nd rfl (.inl rfl)) pgs_nil)))
        (fun _ _ _ _ _ => pts_one (PW.pt (pw_and (pt_cmp (pc_din hu (pv 6) (pe_ix ix_list (pv 1) (pv 3) (fun _ _ => rfl))) (by with_unfolding_all rfl)) (pw_and1 (pt_cmpR op_ne (pv 7) (pv 4) (nomark _))))))
        (fun _ _ _ _ _ => pe_dget hu (pe_ix ix_list (pv 1) (pv 3) (fun _ _ => rfl)) (pv 6) (fun _ _ => rfl)))) pa_nil))))), ?_⟩
    refine q_set (P := fun u _ => u = .int (if spin = 1 then SF.fld h v else 0)) (evp_if (evb_test (evv_eq (evv_var rfl) evv_c)) (fun hb => ?_) (fun hb => ?_)) fun u H1 e1 p1 => ?_
    · have hb' : spin = 1 := by simpa using hb
      rw [if_pos hb']
      refine evd_v (K := K) (evd_ixT (evd_fields T rfl S) (evv_var rfl) (ints_at ?_))
      simp [SF.fld, List.getD, List.getElem?_eq_getElem hv]
    · have hb' : ¬ spin = 1 := by simpa using hb
      rw [if_neg hb']
      exact evv_c
    subst p1
    obtain ⟨ka, rfl, hk⟩ := Kp.same e1
    obtain ⟨na, ps, rfl, hna, pl, hps⟩ := N.same e1
    have gp : ps[v]? = some ps[v] := List.getElem?_eq_getElem (by rw [pl]; exact hv)
    have hp := hps v _ gp
    refine s_end (Q := Q) (evv_add (evv_var rfl) (evv_sum (K := K) (ns := ((fr.zip key).filter fun x => decide (x.1 ∈ (SF.nearL es v).map (·.1)) && decide (x.2 ≠ spin)).map fun x => SF.lookN (SF.nearL es v) x.1) ?_)) fun v3 H3 e3 p3 => ?_
    · refine evd_lock hk True.intro rfl fun H2 od e2 => ?_
      rw [List.map_map]
      have hk2 := e2 _ _ hk
      have rp : Rd (upd H2 ka (.frz od (.dK ((fr.zip key).map fun x => (kM x.1, V.int x.2))))) ps[v] (.dK (nkv es v)) := rd_lock hk2 rfl (.inl (e2 _ _ hp)) (fun _ _ z => nomatch z)
      have rn : Rd (upd H2 ka (.frz od (.dK ((fr.zip key).map fun x => (kM x.1, V.int x.2))))) na (.lst (ps.map V.ref)) := rd_lock hk2 rfl (.inl (e2 _ _ hna)) (fun _ _ z => nomatch z)
      refine evd_lc (src_nitems (evv_var rfl) upd_same) (by rw [List.length_zip, sizeLine_eq]; omega) _ _ (fun _ => rfl) fun y x H4 hy e4 yd R kk => ?_
      obtain ⟨T', rfl, hT⟩ := yd
      refine ⟨T', _, rfl, .inl (.inl hT), rfl, _, _, rfl, _, _, rfl, rfl, ?_⟩
      refine kk _ rfl (evb_and (fun H5 e5 Q5 q5 => ?_) fun _ => (evb_test (evv_ne (evv_var rfl) (evv_var rfl))).is (by simp [V.int.injEq])) fun hf H5 e5 Q5 q5 => ?_
      · refine ⟨_, rfl, (evv_nearR rfl (rd_same e4 rn) rfl gp) H5 e5 _ fun u6 H6 e6 p6 => ?_⟩
        subst p6
        refine ⟨_, _, rfl, .inl ⟨_, kM y.1, rd_same (e4.trans (e5.trans e6)) rp, rfl, rfl⟩, _, rfl, ?_⟩
        rw [isSome_mem (nkv_keys es v)]
        exact q5 _ e6
      · refine (evv_nearR rfl (rd_same e4 rn) rfl gp) H5 e5 _ fun u6 H6 e6 p6 => ?_
        subst p6
        have hm : y.1 ∈ (SF.nearL es v).map (·.1) := by
          have := (Bool.and_eq_true_iff.mp hf).1
          simpa using this
        exact ⟨_, rfl, _, _, rfl, .inl ⟨_, kM y.1, rd_same (e4.trans (e5.trans e6)) rp, rfl, (nkv_look y.1 hm).symm⟩, q5 _ _ e6 (.int _)⟩
    · subst p3
      rw [sum_sm]
      exact k H3 (e1.trans e3)
end
end SFW

set_option maxRecDepth 100000
set_option maxHeartbeats 4000000
/-! # For the loops over tables -/
namespace SFW
open PySem PySem.Spec PyProof.Rows L2
open SF (Poly)
/-- the heap without one object -/
def hide (H : Hp) (a : Addr) : Hp := fun b => if b = a then none else H b
theorem hide_self {H : Hp} {a : Addr} : hide H a a = none := if_pos rfl
theorem hide_ne {H : Hp} {a b : Addr} (h : b ≠ a) : hide H a b = H b := if_neg h
theorem hide_same {H : Hp} {a : Addr} : Same (hide H a) H := fun b o e => by
  unfold hide at e
  split at e
  · cases e
  · exact e
theorem hide_upd {H : Hp} {a : Addr} {o : HO} : Same (hide H a) (upd H a o) := fun b u e => by
  have hb : b ≠ a := fun z => by rw [z, hide_self] at e; cases e
  rw [upd_ne hb]
  rw [hide_ne hb] at e
  exact e
theorem hide_of {H0 H : Hp} {a : Addr} (e : Same H0 H) (n : H0 a = none) : Same H0 (hide H a) := fun b o h => by
  rw [hide_ne (ne_of_none h n)]; exact e _ _ h
theorem hide_D {H : Hp} {a : Addr} {u : HO} (h : H a = some u) (n : noSeq u = true) : SameD H (hide H a) := by
  have key : ∀ b v, Rd H b v → noSeq v = false → Rd (hide H a) b v := fun b v r hv => by
    have hb : b ≠ a := fun z => by
      subst z
      rcases r with r | ⟨o', r⟩ <;> rw [h] at r <;> cases r
      · rw [n] at hv; cases hv
      · cases n
    rcases r with r | ⟨o', r⟩
    · exact .inl (by rw [hide_ne hb]; exact r)
    · exact .inr ⟨o', by rw [hide_ne hb]; exact r⟩
  exact ⟨fun b xs r => key b _ r rfl, fun b xs r => key b _ r rfl⟩
theorem tput_len {κ : Type} [DecidableEq κ] (k : κ) (p : Poly) : ∀ t : List (κ × Poly), (SF.tput t k p).length ≤ t.length + 1
  | [] => Nat.le_refl _
  | x :: r => by
    unfold SF.tput
    split
    · simp
    · have := tput_len k p r
      simp; omega
theorem tget_can {κ : Type} [DecidableEq κ] {t : List (κ × Poly)} (h : ∀ x ∈ t, SF.Canon x.2) (k : κ) : SF.Canon (SF.tget t k) := by
  rcases SF.tget_mem (k := k) (t := t) with ⟨x, hx, _, e⟩ | e
  · rw [e]; exact h x hx
  · rw [e]; exact ⟨.nil, fun _ h => nomatch h⟩
theorem domTimes_of {p q : Poly} (hp : SF.Canon p) (h : SF.nrm p ≤ 4194304) (hq : q.length ≤ 2) : domTimes [polyD p, polyD q] (polyD (SF.times p q)) := by
  refine ⟨p, q, rfl, ?_, fun t ht => ?_, rfl⟩
  · have h1 := hp.len
    have h2 : p.length * q.length ≤ 4194304 * 2 := Nat.mul_le_mul (by omega) hq
    rw [sizeLine_eq]; omega
  · have := SF.nrm_mem ht
    omega
section
variable {K : PySem.W.Frag} {σ : L2.St} {H H' : Hp} {te : TE} {ds : List PyData}
theorem evp_tupleN (h : EvD K te σ H (.list ds)) : EvP (tCB (rTupOf K) (tCons te tNil)) σ H fun v H' => ∃ a xs, v = .ref a ∧ H' a = some (.tup xs) ∧ DpAll K H' xs ds :=
  evp_cb (ead_cons h ead_nil) fun vs H1 e1 p1 Q q => by
    obtain ⟨v, rfl, p2⟩ := dpa_one p1
    obtain ⟨a, xs, rfl, p3, p4⟩ := dp_lst p2
    exact ⟨a, xs, rfl, .inl ⟨p3, fun l nl => q _ _ (same_new nl) ⟨l, xs, rfl, upd_same, dpa_same (same_new nl) p4⟩⟩⟩
end
/-- dict(zip(..)) with keys that differ -/
theorem merge_nd : ∀ (l : List (L2.Key × V)) (acc : List (L2.Key × V)), (l.map (·.1)).Nodup → (∀ k ∈ l.map (·.1), k ∉ acc.map (·.1)) → mergeK acc l = acc ++ l
  | [], acc, _, _ => (List.append_nil acc).symm
  | x :: l, acc, nd, h => by
    rw [List.map_cons, List.nodup_cons] at nd
    show mergeK (putK acc x.1 x.2) l = _
    have e : putK acc x.1 x.2 = acc ++ [x] := by
      refine putK_new _ ?_
      cases hv : valV acc x.1 with
      | none => rfl
      | some v => exact absurd (valV_in hv) (h _ List.mem_cons_self)
    rw [e, merge_nd l _ nd.2 fun k hk => ?_, List.append_assoc]; rfl
    rw [List.map_append, List.mem_append, not_or]
    refine ⟨h k (List.mem_cons_of_mem _ hk), fun z => ?_⟩
    have : k = x.1 := by simpa using z
    subst this
    exact nd.1 hk
theorem zip_kept (fr : List Nat) (key : List Int) : (fr.map kM).zip (key.map V.int) = (fr.zip key).map fun x => (kM x.1, V.int x.2) := by rw [List.zip_map]; rfl
theorem map_inj_nd {α β : Type} {f : α → β} (inj : ∀ a b, f a = f b → a = b) {l : List α} (h : l.Nodup) : (l.map f).Nodup := List.Pairwise.map _ (fun a b n z => n (inj _ _ z)) h
theorem kept_merge {fr : List Nat} {key : List Int} (nd : fr.Nodup) (hl : key.length = fr.length) : mergeK [] ((fr.map kM).zip (key.map V.int)) = (fr.zip key).map fun x => (kM x.1, V.int x.2) := by
  rw [merge_nd _ [] ?_ (fun _ _ => List.not_mem_nil), List.nil_append, zip_kept]
  rw [zip_kept, List.map_map]
  have : ((fr.zip key).map ((·.1) ∘ fun x : Nat × Int => (kM x.1, V.int x.2))) = fr.map kM := by
    rw [show ((·.1) ∘ fun x : Nat × Int => (kM x.1, V.int x.2)) = kM ∘ (fun x : Nat × Int => x.1) from rfl, ← List.map_map]
    congr 1
    exact List.map_fst_zip (by omega)
  rw [this]
  exact map_inj_nd kM_inj nd
/-- the kept spin of a vertex of the frontier -/
theorem kept_look : ∀ {fr : List Nat} {key : List Int} (u : Nat), u ∈ fr → key.length = fr.length → valV ((fr.zip key).map fun x => (kM x.1, V.int x.2)) (kM u) = some (.int (SF.look fr key u))
  | f :: fr, k :: key, u, hu, hl => by
    rw [List.zip_cons_cons, List.map_cons]
    unfold SF.look
    by_cases h : f = u
    · rw [valV_pos (by rw [h]), if_pos h]
    · rw [valV_neg (fun z => h (kM_inj _ _ z)), if_neg h]
      refine kept_look u ?_ (by simpa using hl)
      rcases List.mem_cons.mp hu with z | z
      · exact absurd z.symm h
      · exact z
  | f :: fr, [], u, _, hl => by simp at hl
/-- all but dicts with tuple keys is kept -/
def SameN (H H' : Hp) : Prop := ∀ b o, H b = some o → (∀ kvs, o ≠ .dT kvs) → H' b = some o
theorem SameN.of {H H' : Hp} (e : Same H H') : SameN H H' := fun b o h _ => e b o h
theorem SameN.trans {H H1 H2 : Hp} (a : SameN H H1) (b : SameN H1 H2) : SameN H H2 := fun c o h n => b c o (a c o h n) n
theorem SameN.upd {H : Hp} {p : Addr} {kvs : List (List L2.Key × V)} {u : HO} (h : H p = some (.dT kvs)) : SameN H (L2.upd H p u) := fun b o hb n => by
  have : b ≠ p := fun z => by rw [z, h] at hb; cases hb; exact n _ rfl
  rw [upd_ne this]; exact hb
theorem SameN.hide {H : Hp} {p : Addr} {kvs : List (List L2.Key × V)} (h : H p = some (.dT kvs)) : SameN H (SFW.hide H p) := fun b o hb n => by
  have : b ≠ p := fun z => by rw [z, h] at hb; cases hb; exact n _ rfl
  rw [hide_ne this]; exact hb
theorem SameN.D {H H' : Hp} (e : SameN H H') : SameD H H' := by
  have key : ∀ b v, Rd H b v → (∀ kvs, v ≠ .dT kvs) → Rd H' b v := fun b v r n => by
    rcases r with r | ⟨o, r⟩
    · exact .inl (e _ _ r n)
    · exact .inr ⟨o, e _ _ r (fun _ z => nomatch z)⟩
  exact ⟨fun b xs r => key b _ r (fun _ z => nomatch z), fun b xs r => key b _ r (fun _ z => nomatch z)⟩
section
variable {K : PySem.W.Frag} {C : Addr} {H H' : Hp} {v : V}
theorem SpinsAt.n {h : List Int} {es : List SF.Edge} (e : SameN H H') (x : SpinsAt K C H v h es) : SpinsAt K C H' v h es := let ⟨a, dx, fv, ev, e1, e2, e3, e4⟩ := x; ⟨a, dx, fv, ev, e1, e _ _ e2 (fun _ z => nomatch z), dp_sameD e.D e3, dp_sameD e.D e4⟩
theorem NearAt.n {es : List SF.Edge} {n : Nat} (e : SameN H H') (x : NearAt K H v es n) : NearAt K H' v es n := let ⟨a, ps, e1, e2, e3, e4⟩ := x; ⟨a, ps, e1, e _ _ e2 (fun _ z => nomatch z), e3, fun y p h => e _ _ (e4 y p h) (fun _ z => nomatch z)⟩
end
theorem tsz_mem {κ : Type} {t : List (κ × Poly)} {x : κ × Poly} (h : x ∈ t) : SF.nrm x.2 ≤ SF.tsz t (fun _ => 1) := by
  induction t with
  | nil => cases h
  | cons y r ih =>
    unfold SF.tsz
    rcases List.mem_cons.mp h with z | z
    · subst z; omega
    · have := ih z; omega
theorem trow_len (h : List Int) (es : List SF.Edge) (fr : List Nat) (v : Nat) (fr' : List Nat) (lt : List (List Int × Poly)) (x : List Int × Poly) : (SF.trow h es fr v fr' lt x).length ≤ lt.length + 2 := by
  unfold SF.trow SF.tadd
  exact Nat.le_trans (tput_len _ _ _) (Nat.succ_le_succ (tput_len _ _ _))
end SFW

set_option maxRecDepth 100000
set_option maxHeartbeats 4000000
/-! # sum_by_transfer -/
namespace SFW
open PySem PySem.Spec PyProof.Rows L2
open SF (Poly)
abbrev sTrans : Stmt := topS 39
abbrev nTrans : List Str := ["spins", "order", "near", "inside", "frontier", "sums", "vertex", "following", "later", "key", "total", "kept", "spin", "paid", "longer", "place", "other"]
theorem scTrans : FnScope nTrans ["spins", "order"] (defScope sTrans) := ⟨rfl, rfl, rfl, by decide +kernel, rfl, by decide +kernel, by decide +kernel⟩
abbrev rDictD : List V → Hp → VK → Prop := fun xs H Q => ∃ (a : Addr) (kvs : List (L2.Key × V)), xs = [.ref a] ∧ Rd H a (.dK kvs) ∧ ∀ p, H p = none → Q (.ref p) (upd H p (.dK kvs))
/-- for spin in (0, 1): the body -/
def t_spin (K : PySem.W.Frag) (C : Addr) : TS :=
  tSeq (tAsg (tCall (spPaid K C) [] E0 (tCons (tVar 0) (tCons (tVar 2) (tCons (tVar 11) (tCons (tVar 6) (tCons (tVar 12) tNil)))))) (gName 13))
  (tSeq (tAsg (tCB rDictD (tCons (tVar 11) tNil)) (gName 14))
  (tSeq (sDPut (tVar 14) (tVar 6) (tVar 12))
  (tSeq (tAsg (tCB (rTupOf K) (tCons (tLc (iList K (tVar 7)) (gName 16) tYes (tDGet (tVar 14) (tVar 16)) [16]) tNil)) (gName 15))
  (sDPut (tVar 8) (tVar 15) (tCall (spD K domPlus) [] E0 (tCons (tDGet2 (tVar 8) (tVar 15) (tTup tNil)) (tCons (tCall (spD K domTimes) [] E0 (tCons (tVar 10) (tCons (tTup (tCons (tTup (tCons (tTup (tCons (tVar 13) (tCons (tVar 12) tNil))) (tCons (tC (.int 1)) tNil))) tNil)) tNil))) tNil)))))))
/-- for key, total in sums.items(): the body -/
def t_item (K : PySem.W.Frag) (C : Addr) : TS :=
  tSeq (tAsg (tDictZip K (tCons (tVar 4) (tCons (tVar 9) tNil))) (gName 11)) (tFor (iTup K (tTup (tCons (tC (.int 0)) (tCons (tC (.int 1)) tNil)))) (gName 12) (t_spin K C))
/-- for vertex in order: the body -/
def t_vertex (K : PySem.W.Frag) (C : Addr) : TS :=
  tSeq (sDPut (tVar 3) (tVar 6) (tC (.bl true)))
  (tSeq (tAsg (tCall (spFront K) [] E0 (tCons (tVar 2) (tCons (tVar 3) tNil))) (gName 7))
  (tSeq (tAsg tDNewT (gName 8))
  (tSeq (tLock (tFor (iItemsT (tVar 5)) (gTup K 2 (gCons (gName 9) (gCons (gName 10) gNil))) (t_item K C)))
  (tSeq (tAsg (tVar 7) (gName 4)) (tAsg (tVar 8) (gName 5))))))
def t_trans (K : PySem.W.Frag) (C : Addr) : TS :=
  tSeq (tDrop (tCall (spOrder K C) [] E0 (tCons (tVar 0) (tCons (tVar 1) tNil))))
  (tSeq (tAsg (tCall (spNear K C) [] E0 (tCons (tVar 0) tNil)) (gName 2))
  (tSeq (tAsg tDNewK (gName 3))
  (tSeq (tAsg (tLst tNil) (gName 4))
  (tSeq (tAsg (tDispT (tTup tNil) (tTup (tCons (tTup (tCons (tTup (tCons (tC (.int 0)) (tCons (tC (.int 0)) tNil))) (tCons (tC (.int 1)) tNil))) tNil))) (gName 5))
  (tSeq (tFor (iList K (tVar 1)) (gName 6) (t_vertex K C)) (tRet (tDGet (tVar 5) (tTup tNil))))))))
section
variable {P : Program} {w : World} {K : PySem.W.Frag} {mg : Str → Option Value} {base : Heap} {C : Addr}
def spTrans (K : PySem.W.Frag) (C : Addr) : Sp := fun vs H Q _ => ∃ (v ov : V) (h : List Int) (es : List SF.Edge) (order : List Nat), vs = [v, ov] ∧ SpinsAt K C H v h es ∧ SF.Wf h es ∧ Dp K H ov (.list (order.map natD)) ∧ order.Perm (List.range h.length) ∧ ∀ u H', Same H H' → Dp K H' u (polyD (SF.Z h es)) → Q u H'
/-- one spin of one entry -/
theorem spin_step {D : Ends} {H : Hp} {sv ov nv iv fv s5 fol tot k9 : V} {o13 o14 o15 o16 : Option V} {la ka : Addr} {h : List Int} {es : List SF.Edge} {fr fr' : List Nat} {key : List Int} {num : Poly} {lkvs : List (List L2.Key × V)} {lt : List (List Int × Poly)} {v : Nat} {b : Int}
    (S : SpinsAt K C H sv h es) (N : NearAt K H nv es h.length) (Kp : KeptAt H (.ref ka) fr key) (hf : Dp K H fol (.list (fr'.map natD))) (ht : Dp K H tot (polyD num)) (hla : H la = some (.dT lkvs)) (tb : TabG kT K H lkvs lt) (nd : (lt.map (·.1)).Nodup) (ll : lt.length < 1000)
    (hv : v < h.length) (fl : fr.length ≤ 6) (fl' : fr'.length ≤ 6) (sub : ∀ u ∈ fr', u = v ∨ u ∈ fr) (kl : key.length = fr.length) (cn : SF.Canon num) (nn : SF.nrm num ≤ 1000) (can : ∀ x ∈ lt, SF.Canon x.2) (sz : SF.tsz lt (fun _ => 1) ≤ 1000)
    (nx : ∀ (H' : Hp) (lkvs' : List (List L2.Key × V)) (z13 z14 z15 : V), Same (hide H la) H' → H' la = some (.dT lkvs') → TabG kT K H' lkvs' (SF.tadd lt (SF.place fr key v b fr') (SF.times num [((SF.paid h es fr key v b, b), 1)])) →
      D.nx [some sv, some ov, some nv, some iv, some fv, some s5, some (.int (v : Int)), some fol, some (.ref la), some k9, some tot, some (.ref ka), some (.int b), some z13, some z14, some z15, o16] H') :
    t_spin K C D [some sv, some ov, some nv, some iv, some fv, some s5, some (.int (v : Int)), some fol, some (.ref la), some k9, some tot, some (.ref ka), some (.int b), o13, o14, o15, o16] H := by
  refine q_set (P := fun u _ => u = .int (SF.paid h es fr key v b)) (evp_callV (eav_cons (evv_var rfl) (eav_cons (evv_var rfl) (eav_cons (evv_var rfl) (eav_cons (evv_var rfl) (eav_cons (evv_var rfl) eav_nil))))) fun H1 e1 Q q => ⟨sv, nv, .ref ka, h, es, fr, key, v, b, rfl, S.same e1, N.same e1, Kp.same e1, hv, fl, fun H2 e2 => q _ H2 e2 rfl⟩) fun u H1 e1 p1 => ?_
  subst p1
  obtain ⟨ka', eka, hk⟩ := Kp.same e1
  cases eka
  have zl : ((fr.zip key).map fun x => (kM x.1, V.int x.2)).length ≤ 6 := by rw [List.length_map, List.length_zip]; omega
  refine q_set (P := fun u H' => ∃ p, u = .ref p ∧ H1 p = none ∧ H' p = some (.dK ((fr.zip key).map fun x => (kM x.1, V.int x.2)))) (fun H2 e2 Q q => ⟨_, rfl, ka, _, rfl, .inl (e2 _ _ hk), fun p np => q _ _ (same_new np) ⟨p, rfl, e2.free np, upd_same⟩⟩) fun u H2 e2 p2 => ?_
  obtain ⟨p, rfl, np, hp⟩ := p2
  refine ⟨_, rfl, _, rfl, _, rfl, p, _, rfl, DPut.k (k := kM v) hp (by rw [sizeLine_eq]; omega), ?_⟩
  have e13 : Same H1 (upd H2 p (.dK (putK ((fr.zip key).map fun x => (kM x.1, V.int x.2)) (kM v) (.int b)))) := same_mut e2 np
  have e03 := e1.trans e13
  dsimp only
  refine q_set (evp_tupleN (K := K) (ds := (SF.place fr key v b fr').map PyData.int) ?_) fun u H4 e4 p4 => ?_
  · have ep : (SF.place fr key v b fr').map PyData.int = fr'.map fun u => PyData.int (if u = v then b else SF.look fr key u) := by unfold SF.place; rw [List.map_map]; rfl
    rw [ep]
    refine evd_lcA (src_list (evd_var rfl (dp_same e03 hf))).map (by rw [sizeLine_eq]; omega) _ (fun _ => rfl) fun u x H5 hu e5 yd R kk => ?_
    cases dp_int yd
    refine kk _ (wipe_set1 _ _ _) fun H6 e6 Q6 q6 => ?_
    refine ⟨_, rfl, _, rfl, p, _, rfl, .inl ⟨_, kM u, .inl ((e5.trans e6) _ _ upd_same), rfl, ?_⟩, q6 _ _ (Same.refl _) (.int _)⟩
    rw [valV_put]
    by_cases h1 : u = v
    · rw [if_pos h1, if_pos (by rw [h1])]
    · rw [if_neg h1, if_neg fun z => h1 (kM_inj _ _ z)]
      exact (kept_look u ((sub u hu).resolve_left h1) kl).symm
  · obtain ⟨pl, xs, rfl, hpl, hxs⟩ := p4
    rw [dpa_ints hxs] at hpl
    have e04 := e03.trans e4
    refine s_taddT (key := SF.place fr key v b fr') rfl (e04 _ _ hla) (tb.up (.of e04)) nd (by rw [Paired.length tb, sizeLine_eq]; omega) rfl hpl (q := SF.times num [((SF.paid h es fr key v b, b), 1)]) ?_ ?_ fun H' lkvs' e5 tb' => ?_
    · exact evd_call (ds := [polyD num, polyD [((SF.paid h es fr key v b, b), 1)]]) (ead_cons (evd_var rfl (dp_same e04 ht)) (ead_cons (evd_tup (ead_cons (evd_tup (ead_cons (evd_tup (ead_cons (evv_d (evv_var rfl)) (ead_cons (evv_d (evv_var rfl)) ead_nil)) (by show 2 ≤ sizeLine; decide)) (ead_cons evd_int ead_nil)) (by show 2 ≤ sizeLine; decide)) ead_nil) (by show 1 ≤ sizeLine; decide)) ead_nil))
          (domTimes_of cn (by omega) (by show 1 ≤ 2; decide))
    · have h1 := (tget_can can (SF.place fr key v b fr')).len
      have h2 := SF.tget_sz (fun _ => 1) (SF.place fr key v b fr') (Nat.le_refl 1) lt
      have h3 := (SF.times_canon num [((SF.paid h es fr key v b, b), 1)]).len
      have h4 := SF.mono_nrm num (SF.paid h es fr key v b) b
      rw [sizeLine_eq]; omega
    · exact nx _ lkvs' _ _ _ (fun b o hb => by
        have hne : b ≠ la := fun z => by rw [z, hide_self] at hb; cases hb
        rw [upd_ne hne]
        rw [hide_ne hne] at hb
        exact e5 _ _ (e04 _ _ hb)) upd_same tb'
theorem dpa_nats {H : Hp} : ∀ {fr : List Nat} {xs : List V}, DpAll K H xs (fr.map natD) → xs = (fr.map kM).map kV
  | [], _, h => dpa_nil h
  | n :: fr, _, h => by
    obtain ⟨v, r, rfl, h1, h2⟩ := dpa_cons h
    rw [dp_int h1, dpa_nats h2]; rfl
def rowN (h : List Int) (es : List SF.Edge) (fr : List Nat) (v : Nat) (fr' : List Nat) (lt : List (List Int × Poly)) (x : List Int × Poly) : Nat → List (List Int × Poly)
  | 0 => lt
  | 1 => SF.tadd lt (SF.place fr x.1 v 0 fr') (SF.times x.2 [((SF.paid h es fr x.1 v 0, 0), 1)])
  | _ => SF.trow h es fr v fr' lt x
/-- one entry -/
theorem item_step {D : Ends} {H : Hp} {sv ov nv iv fv s5 fol tot : V} {o11 o12 o13 o14 o15 o16 : Option V} {la k9 : Addr} {h : List Int} {es : List SF.Edge} {fr fr' : List Nat} {key : List Int} {num : Poly} {lkvs : List (List L2.Key × V)} {lt : List (List Int × Poly)} {v : Nat}
    (S : SpinsAt K C H sv h es) (N : NearAt K H nv es h.length) (hfv : Dp K H fv (.list (fr.map natD))) (hk : H k9 = some (.tup (key.map V.int))) (hf : Dp K H fol (.list (fr'.map natD))) (ht : Dp K H tot (polyD num)) (hla : H la = some (.dT lkvs)) (tb : TabG kT K H lkvs lt) (nd : (lt.map (·.1)).Nodup) (ll : lt.length < 900)
    (hv : v < h.length) (fl : fr.length ≤ 6) (fl' : fr'.length ≤ 6) (fnd : fr.Nodup) (sub : ∀ u ∈ fr', u = v ∨ u ∈ fr) (kl : key.length = fr.length) (cn : SF.Canon num) (nn : SF.nrm num ≤ 400) (can : ∀ x ∈ lt, SF.Canon x.2) (sz : SF.tsz lt (fun _ => 1) ≤ 400)
    (nx : ∀ (H' : Hp) (lkvs' : List (List L2.Key × V)) (z11 z12 z13 z14 z15 : Option V), Same (hide H la) H' → H' la = some (.dT lkvs') → TabG kT K H' lkvs' (SF.trow h es fr v fr' lt (key, num)) →
      D.nx [some sv, some ov, some nv, some iv, some fv, some s5, some (.int (v : Int)), some fol, some (.ref la), some (.ref k9), some tot, z11, z12, z13, z14, z15, o16] H') :
    t_item K C D [some sv, some ov, some nv, some iv, some fv, some s5, some (.int (v : Int)), some fol, some (.ref la), some (.ref k9), some tot, o11, o12, o13, o14, o15, o16] H := by
  obtain ⟨fa, xs, rfl, hfa, hxs⟩ := dp_lst hfv
  rw [dpa_nats hxs] at hfa
  refine ⟨_, rfl, _, rfl, fa, k9, fr.map kM, key.map V.int, rfl, hfa, .inl (.inl hk), by rw [List.length_map, List.length_map, kl], fun p np => ?_⟩
  rw [kept_merge fnd kl]
  have e1 : Same H (upd H p (.dK ((fr.zip key).map fun x => (kM x.1, V.int x.2)))) := same_new np
  refine ⟨by show 2 ≤ sizeLine; decide, fun T nT => ⟨T, rfl, ⟨_, .inl (.inl upd_same)⟩, ?_⟩⟩
  generalize hH1 : upd H p (.dK ((fr.zip key).map fun x => (kM x.1, V.int x.2))) = H1 at e1 nT ⊢
  have hp1 : H1 p = some (.dK ((fr.zip key).map fun x => (kM x.1, V.int x.2))) := by rw [← hH1]; exact upd_same
  have e2 : Same H1 (upd H1 T (.tup [.int 0, .int 1])) := same_new nT
  have hT : upd H1 T (.tup [.int 0, .int 1]) T = some (.tup [.int 0, .int 1]) := upd_same
  generalize hH2 : upd H1 T (.tup [.int 0, .int 1]) = H2 at e2 hT ⊢
  have Tla : T ≠ la := (ne_of_none (e1 _ _ hla) nT).symm
  have pla : p ≠ la := (ne_of_none hla np).symm
  have eh : Same (hide H la) (hide H2 la) := hide_of (hide_same.trans (e1.trans e2)) hide_self
  have nx1 : ∀ {b : Addr}, b ≠ la → hide H2 la b = H2 b := hide_ne
  have SS : SpinsAt K C (hide H2 la) sv h es := by
    obtain ⟨a, dx, fv', ev, e1', e2', e3', e4'⟩ := S.same (e1.trans e2)
    have hD := hide_D ((e1.trans e2) _ _ hla) rfl
    exact ⟨a, dx, fv', ev, e1', by rw [hide_ne (ne_of e2' ((e1.trans e2) _ _ hla) (fun z => nomatch z))]; exact e2', dp_sameD hD e3', dp_sameD hD e4'⟩
  have NN : NearAt K (hide H2 la) nv es h.length := by
    obtain ⟨a, ps, e1', e2', e3', e4'⟩ := N.same (e1.trans e2)
    exact ⟨a, ps, e1', by rw [hide_ne (ne_of e2' ((e1.trans e2) _ _ hla) (fun z => nomatch z))]; exact e2', e3', fun y q hq => by rw [hide_ne (ne_of (e4' y q hq) ((e1.trans e2) _ _ hla) (fun z => nomatch z))]; exact e4' y q hq⟩
  have KK : KeptAt (hide H2 la) (.ref p) fr key := ⟨p, rfl, by rw [hide_ne pla]; exact e2 _ _ hp1⟩
  have hD := hide_D ((e1.trans e2) _ _ hla) rfl
  have FF := dp_sameD hD (dp_same (e1.trans e2) hf)
  have TT' := dp_sameD hD (dp_same (e1.trans e2) ht)
  refine for_run (walkL_tup (K := K) (a := T) (ds := [0, 1].map PyData.int) (H := hide H2 la) (.inl (.inl (by rw [hide_ne Tla]; exact hT))) (ints_dpa [0, 1])).map
    (fun i σ' H' => ∃ z12 z13 z14 z15 lkvs2, σ' = [some sv, some ov, some nv, some iv, some (.ref fa), some s5, some (.int (v : Int)), some fol, some (.ref la), some (.ref k9), some tot, some (.ref p), z12, z13, z14, z15, o16] ∧ Same (hide H2 la) H' ∧ H' la = some (.dT lkvs2) ∧ TabG kT K H' lkvs2 (rowN h es fr v fr' lt (key, num) i))
    ⟨o12, o13, o14, o15, lkvs, rfl, hide_same, (e1.trans e2) _ _ hla, tb.up (.of (e1.trans e2))⟩ (fun i σ' H' ⟨_, _, _, _, _, _, sm, _⟩ => sm) (fun i b x σ' H' H'' hb pv' e yd => ?_) (fun σ' H' pv' => ?_)
  · obtain ⟨z12, z13, z14, z15, lkvs2, rfl, sm, hl2, tb2⟩ := pv'
    cases dp_int yd
    have s2 := sm.trans e
    have hi : i = 0 ∧ b = 0 ∨ i = 1 ∧ b = 1 := by
      match i, hb with
      | 0, hb => exact .inl ⟨rfl, (Option.some.inj hb).symm⟩
      | 1, hb => exact .inr ⟨rfl, (Option.some.inj hb).symm⟩
    have nq := SF.mono_nrm num (SF.paid h es fr key v 0) 0
    have facts : ((rowN h es fr v fr' lt (key, num) i).map (·.1)).Nodup ∧ (rowN h es fr v fr' lt (key, num) i).length < 1000 ∧ (∀ x ∈ rowN h es fr v fr' lt (key, num) i, SF.Canon x.2) ∧ SF.tsz (rowN h es fr v fr' lt (key, num) i) (fun _ => 1) ≤ 1000 := by
      rcases hi with ⟨rfl, _⟩ | ⟨rfl, _⟩
      · exact ⟨nd, by show lt.length < 1000; omega, can, by show SF.tsz lt _ ≤ 1000; omega⟩
      · refine ⟨SF.tput_nd nd, ?_, fun x hx => ?_, ?_⟩
        · have := tput_len (SF.place fr key v 0 fr') (SF.plus (SF.tget lt (SF.place fr key v 0 fr')) (SF.times num [((SF.paid h es fr key v 0, 0), 1)])) lt
          exact Nat.lt_of_le_of_lt this (by omega)
        · rcases SF.tadd_mem hx with ⟨_, c⟩ | c
          · exact c
          · exact can x c
        · have := SF.tsz_add (fun _ => 1) (SF.place fr key v 0 fr') (SF.times num [((SF.paid h es fr key v 0, 0), 1)]) lt
          exact Nat.le_trans this (by omega)
    obtain ⟨f1, f2, f3, f4⟩ := facts
    refine spin_step (S := SS.same s2) (N := NN.same s2) (Kp := KK.same s2) (dp_same s2 FF) (dp_same s2 TT') (e _ _ hl2) (tb2.up (.of e)) f1 f2 hv fl fl' sub kl cn (by omega) f3 f4 fun H3 lkvs3 y13 y14 y15 s3 hl3 tb3 => ?_
    refine ⟨_, _, _, _, lkvs3, rfl, (hide_of s2 hide_self).trans s3, hl3, ?_⟩
    rcases hi with ⟨rfl, rfl⟩ | ⟨rfl, rfl⟩
    · exact tb3
    · exact tb3
  · obtain ⟨z12, z13, z14, z15, lkvs2, rfl, sm, hl2, tb2⟩ := pv'
    exact nx H' lkvs2 _ _ _ _ _ (eh.trans sm) hl2 tb2
/-- one vertex -/
theorem vertex_step {D : Ends} {H : Hp} {sv ov nv fv : V} {o7 o8 o9 o10 o11 o12 o13 o14 o15 o16 : Option V} {ia sa : Addr} {h : List Int} {es : List SF.Edge} {ins fr : List Nat} {kvs : List (List L2.Key × V)} {t : List (List Int × Poly)} {ikvs : List (L2.Key × V)} {v : Nat}
    (S : SpinsAt K C H sv h es) (wf : SF.Wf h es) (N : NearAt K (hide H ia) nv es h.length) (hia : H ia = some (.dK ikvs)) (hik : ikvs.map (·.1) = ins.map kM) (hfv : Dp K H fv (.list (fr.map natD))) (hsa : H sa = some (.dT kvs)) (tb : TabG kT K H kvs t)
    (T : SF.TInv h es ins fr t) (ind : ins.Nodup) (inl : ∀ u ∈ ins, u < h.length) (hn : v ∉ ins) (hv : v < h.length) (il : ins.length ≤ 5) (tl : t.length ≤ 64)
    (nx : ∀ (H' : Hp) (ikvs' : List (L2.Key × V)) (fol : V) (fr' : List Nat) (la : Addr) (lkvs : List (List L2.Key × V)) (lt : List (List Int × Poly)) (z6 z7 z8 z9 z10 z11 z12 z13 z14 z15 z16 : Option V), Same (hide H ia) H' → H' ia = some (.dK ikvs') → ikvs'.map (·.1) = (ins ++ [v]).map kM → Dp K H' fol (.list (fr'.map natD)) →
      H' la = some (.dT lkvs) → TabG kT K H' lkvs lt → SF.TInv h es (ins ++ [v]) fr' lt → lt.length ≤ 2 * t.length → H la = none →
      D.nx [some sv, some ov, some nv, some (.ref ia), some fol, some (.ref la), z6, z7, z8, z9, z10, z11, z12, z13, z14, z15, z16] H') :
    t_vertex K C D [some sv, some ov, some nv, some (.ref ia), some fv, some (.ref sa), some (.int (v : Int)), o7, o8, o9, o10, o11, o12, o13, o14, o15, o16] H := by
  have bl : ∀ (l : List Nat) (n : Nat), l.Nodup → (∀ u ∈ l, u < n) → l.length ≤ n := fun l n nd hl => by
    have h1 : (l.map fun (v : Nat) => (v : Int)).length ≤ n := SF.nodup_bd 0 n _ (List.Pairwise.map _ (fun a b h z => h (by omega)) nd) (fun x hx => by
      obtain ⟨v, hv, rfl⟩ := List.mem_map.mp hx
      have := hl v hv
      omega)
    rwa [List.length_map] at h1
  have ikl : ikvs.length ≤ 5 := by
    have := congrArg List.length hik
    rw [List.length_map, List.length_map] at this
    omega
  have pn : putK ikvs (kM v) (.bl true) = ikvs ++ [(kM v, .bl true)] := by
    refine putK_new _ ?_
    cases hvv : valV ikvs (kM v) with
    | none => rfl
    | some x =>
      have := isSome_mem hik v
      rw [hvv] at this
      simp [hn] at this
  refine ⟨_, rfl, _, rfl, ia, _, rfl, DPut.k (k := kM v) hia (by rw [sizeLine_eq]; omega), ?_⟩
  rw [pn]
  dsimp only
  have sD : SameD H (upd H ia (.dK (ikvs ++ [(kM v, .bl true)]))) := .upd hia rfl
  have sh : Same (hide H ia) (upd H ia (.dK (ikvs ++ [(kM v, .bl true)]))) := hide_upd
  have hik1 : (ikvs ++ [(kM v, V.bl true)]).map (·.1) = (ins ++ [v]).map kM := by rw [List.map_append, List.map_append, hik]; rfl
  have hia1 : upd H ia (.dK (ikvs ++ [(kM v, .bl true)])) ia = some (.dK (ikvs ++ [(kM v, .bl true)])) := upd_same
  have S1 : SpinsAt K C (upd H ia (.dK (ikvs ++ [(kM v, .bl true)]))) sv h es := by
    obtain ⟨a, dx, fv', ev, e1', e2', e3', e4'⟩ := S
    exact ⟨a, dx, fv', ev, e1', by rw [upd_ne (ne_of e2' hia (fun z => nomatch z))]; exact e2', dp_sameD sD e3', dp_sameD sD e4'⟩
  have hsa1 : upd H ia (.dK (ikvs ++ [(kM v, .bl true)])) sa = some (.dT kvs) := by rw [upd_ne (ne_of hsa hia (fun z => nomatch z))]; exact hsa
  have N1 := N.same sh
  generalize hH1 : upd H ia (.dK (ikvs ++ [(kM v, .bl true)])) = H1 at sD sh hia1 S1 hsa1 N1 ⊢
  have ind1 : (ins ++ [v]).Nodup := by
    rw [List.nodup_append]
    refine ⟨ind, by simp, fun a ha b hb => ?_⟩
    have : b = v := by simpa using hb
    subst this
    exact fun z => hn (z ▸ ha)
  have inl1 : ∀ u ∈ ins ++ [v], u < h.length := fun u hu => by
    rcases List.mem_append.mp hu with z | z
    · exact inl u z
    · have : u = v := by simpa using z
      omega
  refine q_set (P := fun u H' => ∃ fr', SF.Front es (ins ++ [v]) fr' ∧ Dp K H' u (.list (fr'.map natD))) (evp_callV (eav_cons (evv_var rfl) (eav_cons (evv_var rfl) eav_nil)) fun H2 e2 Q q =>
    ⟨nv, .ref ia, es, h.length, ins ++ [v], rfl, N1.same e2, ⟨ia, _, rfl, .inl (e2 _ _ hia1), hik1⟩, ind1, inl1, wf.hi, wf.few, fun u H' fr' e hF hd => q u H' e ⟨fr', hF, hd⟩⟩) fun fol H2 e2 p2 => ?_
  obtain ⟨fr', hF, hfol⟩ := p2
  refine q_set (P := fun u H' => ∃ p, u = .ref p ∧ H2 p = none ∧ H' p = some (.dT [])) (fun H3 e3 Q q p np => q _ _ (same_new np) ⟨p, rfl, e3.free np, upd_same⟩) fun la0 H3 e3 p3 => ?_
  obtain ⟨la, rfl, nla, hla⟩ := p3
  have nla1 : H1 la = none := e2.free nla
  have fia : ia ≠ la := ne_of_none hia1 nla1
  have nlaH : H la = none := by
    cases z : H la with
    | none => rfl
    | some o =>
      have : hide H ia la = some o := by rw [hide_ne fia.symm]; exact z
      have := sh _ _ this
      rw [nla1] at this; cases this
  have e13 := e2.trans e3
  have fsa : sa ≠ la := ne_of_none hsa1 nla1
  have hsa3 := e13 _ _ hsa1
  refine ⟨sa, _, hsa3, True.intro, fun od => ⟨_, rfl, sa, od, kvs, rfl, upd_same, ?_⟩⟩
  have nL : SameN H3 (upd H3 sa (.frz od (.dT kvs))) := .upd hsa3
  have hlaL : upd H3 sa (.frz od (.dT kvs)) la = some (.dT []) := by rw [upd_ne fsa.symm]; exact hla
  have hsaL : upd H3 sa (.frz od (.dT kvs)) sa = some (.frz od (.dT kvs)) := upd_same
  have ofL : ∀ b o, b ≠ sa → H3 b = some o → upd H3 sa (.frz od (.dT kvs)) b = some o := fun b o hb e => by rw [upd_ne hb]; exact e
  generalize hHL : upd H3 sa (.frz od (.dT kvs)) = HL at nL hlaL hsaL ofL ⊢
  have nW : SameN H3 (hide HL la) := nL.trans (.hide hlaL)
  have SW : SpinsAt K C (hide HL la) sv h es := (S1.same e13).n nW
  have NW : NearAt K (hide HL la) nv es h.length := (N1.same e13).n nW
  have fvW := dp_sameD nW.D (dp_same e13 (dp_sameD sD hfv))
  have folW := dp_sameD nW.D (dp_same e3 hfol)
  have tbW : TabG kT K (hide HL la) kvs t := (tb.up sD).up ((SameD.of e13).trans nW.D)
  have hsaW : hide HL la sa = some (.frz od (.dT kvs)) := by rw [hide_ne fsa]; exact hsaL
  have iaW : hide HL la ia = some (.dK (ikvs ++ [(kM v, .bl true)])) := nW _ _ (e13 _ _ hia1) (fun _ z => nomatch z)
  have frl : fr.length ≤ 6 := Nat.le_trans (bl fr h.length T.front.nd (fun u hu => inl u ((T.front.mem u).mp hu).1)) wf.hi
  have frl' : fr'.length ≤ 6 := Nat.le_trans (bl fr' h.length hF.nd (fun u hu => inl1 u ((hF.mem u).mp hu).1)) wf.hi
  have sub : ∀ u ∈ fr', u = v ∨ u ∈ fr := fun u hu => by
    obtain ⟨h1, x, h2, h3⟩ := (hF.mem u).mp hu
    rcases List.mem_append.mp h1 with z | z
    · exact .inr ((T.front.mem u).mpr ⟨z, x, h2, fun z2 => h3 (List.mem_append_left _ z2)⟩)
    · exact .inl (by simpa using z)
  have pw : 2 ^ ins.length ≤ 2 ^ 5 := Nat.pow_le_pow_right (by omega) il
  have tsz := T.sz
  refine for_run (walkL_itemsT hsaW) (fun j σ' H' => ∃ lkvs lt z9 z10 z11 z12 z13 z14 z15, σ' = [some sv, some ov, some nv, some (.ref ia), some fv, some (.ref sa), some (.int (v : Int)), some fol, some (.ref la), z9, z10, z11, z12, z13, z14, z15, o16] ∧ Same (hide HL la) H' ∧ H' la = some (.dT lkvs) ∧ TabG kT K H' lkvs lt ∧ SF.TPart h es ins fr fr' v (t.take j) lt ∧ lt.length ≤ 2 * j)
    ⟨[], [], _, _, _, _, _, _, _, rfl, hide_same, hlaL, .nil, SF.TPart.start h es ins fr fr' v, Nat.zero_le _⟩ (fun j σ' H' ⟨_, _, _, _, _, _, _, _, _, _, sm, _⟩ => sm) (fun j kv x σ' H' H'' hkv pv' e yd => ?_) (fun σ' H' pv' => ?_)
  · obtain ⟨lkvs, lt, z9, z10, z11, z12, z13, z14, z15, rfl, sm, hl2, tb2, TP, ll⟩ := pv'
    obtain ⟨T', q, rfl, hT', hq⟩ := yd
    obtain ⟨x, hx, hk1, hk2⟩ := paired_get tbW hkv
    have xm : x ∈ t := List.mem_of_getElem? hx
    have sW := sm.trans e
    have jl : j < t.length := (List.getElem?_eq_some_iff.mp hx).1
    have kx := T.key x xm
    have nx1 := tsz_mem xm
    have ts1 := SF.tsz_take (fun _ => 1) t j
    have ts2 := TP.sz
    rw [hk1, kT_V] at hq
    refine ⟨T', _, rfl, .inl (.inl hT'), rfl, _, _, rfl, _, _, rfl, rfl, ?_⟩
    refine item_step (key := x.1) (num := x.2) (lt := lt) (SW.same sW) (NW.same sW) (dp_same sW fvW) hq (dp_same sW folW) (dp_same sW hk2) (e _ _ hl2) (tb2.up (.of e)) TP.nd (by omega) hv frl frl' T.front.nd sub kx.1 (T.can x xm) (by omega) TP.can (by omega) fun H3 lkvs3 y11 y12 y13 y14 y15 s3 hl3 tb3 => ?_
    refine ⟨lkvs3, _, _, _, _, _, _, _, _, rfl, (hide_of sW hide_self).trans s3, hl3, tb3, ?_, ?_⟩
    · rw [take_next hx]
      exact SF.TPart.step wf T.front hF hv hn kx.1 kx.2 TP
    · have := trow_len h es fr v fr' lt (x.1, x.2)
      omega
  · obtain ⟨lkvs, lt, z9, z10, z11, z12, z13, z14, z15, rfl, sm, hl2, tb2, TP, ll⟩ := pv'
    rw [Paired.length tbW, List.take_length] at TP
    rw [Paired.length tbW] at ll
    have hsaE := sm _ _ hsaW
    refine ⟨hsaE, ?_⟩
    have uD : SameD H' (upd H' sa (.dT kvs)) := unlock_D hsaE rfl
    have laE : upd H' sa (.dT kvs) la = some (.dT lkvs) := by rw [upd_ne fsa.symm]; exact hl2
    refine ⟨_, rfl, _, rfl, ?_⟩
    refine nx (upd H' sa (.dT kvs)) _ fol fr' la lkvs lt _ _ _ _ _ _ _ _ _ _ _ (fun b o hb => ?_) (by rw [upd_ne (ne_of (sm _ _ iaW) hsaE (fun z => nomatch z))]; exact sm _ _ iaW) hik1 (dp_sameD uD (dp_same sm folW)) laE (tb2.up uD) (T.next hF TP) ll nlaH
    by_cases z : b = sa
    · subst z
      have : b ≠ ia := fun z => by rw [z, hide_self] at hb; cases hb
      rw [hide_ne this, hsa] at hb
      rw [upd_same]; exact hb
    · rw [upd_ne z]
      have hla' : b ≠ la := fun y => by
        subst y
        have := sh _ _ hb
        rw [nla1] at this; cases this
      exact sm _ _ (by rw [hide_ne hla']; exact ofL b o z (e13 _ _ (sh _ _ hb)))
theorem pure_trans (vs : List V) (H : Hp) (Q : VK) (E : XK) (hsp : spTrans K C vs H Q E) : t_trans K C (DQ Q) (start nTrans vs) H := by
  obtain ⟨v, ov, h, es, order, rfl, S, wf, ho, perm, k⟩ := hsp
  have ol : order.length = h.length := by have := perm.length_eq; simpa using this
  have ond : order.Nodup := perm.nodup_iff.mpr List.nodup_range
  have olt : ∀ u ∈ order, u < h.length := fun u hu => by simpa using perm.mem_iff.mp hu
  have oall : ∀ u, u < h.length → u ∈ order := fun u hu => perm.mem_iff.mpr (by simpa using hu)
  refine q_drop (P := fun _ _ => True) (evp_callV (eav_cons (evv_var rfl) (eav_cons (evv_var rfl) eav_nil)) fun H1 e1 Q q => ⟨v, ov, h, es, order, rfl, S.same e1, dp_same e1 ho, perm, wf.hi, fun H' e => q _ H' e True.intro⟩) fun _ H1 e1 _ => ?_
  refine q_set (P := fun u H' => NearAt K H' u es h.length) (evp_callV (eav_cons (evv_var rfl) eav_nil) fun H2 e2 Q q => ⟨v, h, es, rfl, S.same (e1.trans e2), wf, fun u H' e hN => q u H' e hN⟩) fun nv H2 e2 N => ?_
  have e02 := e1.trans e2
  refine q_set (P := fun u H' => ∃ p, u = .ref p ∧ H2 p = none ∧ H' p = some (.dK [])) (fun H3 e3 Q q p np => q _ _ (same_new np) ⟨p, rfl, e3.free np, upd_same⟩) fun u H3 e3 p3 => ?_
  obtain ⟨ia, rfl, nia, hia⟩ := p3
  refine q_set (evd_lst (K := K) (ds := []) ead_nil (Nat.zero_le _)) fun fv H4 e4 hfv => ?_
  refine q_set (P := fun u H' => ∃ p val, u = .ref p ∧ H' p = some (.dT [([], val)]) ∧ Dp K H' val (polyD [((0, 0), 1)])) (fun H5 e5 Q q p np => ⟨Nat.zero_le _, fun b nb => ?_⟩) fun u H5 e5 p5 => ?_
  · refine (evd_tup (K := K) (ds := [termD ((0, 0), 1)]) (ead_cons (evd_tup (ead_cons (evd_tup (ead_cons evd_int (ead_cons evd_int ead_nil)) (by show 2 ≤ sizeLine; decide)) (ead_cons evd_int ead_nil)) (by show 2 ≤ sizeLine; decide)) ead_nil) (by show 1 ≤ sizeLine; decide)).go fun y H6 e6 py => ?_
    have hp6 : H6 p = some (.dT []) := e6 _ _ (by rw [upd_ne (ne_of_none upd_same nb)]; exact upd_same)
    have hb6 : H6 b = some (.tup []) := e6 _ _ upd_same
    have s6 : Same H5 H6 := ((same_new np).trans (same_new nb)).trans e6
    exact ⟨b, [], hp6, rfl, hb6, q _ _ (same_mut s6 np) ⟨p, y, rfl, upd_same, dp_sameD (.upd hp6 rfl) py⟩⟩
  obtain ⟨sa, val, rfl, hsa, hval⟩ := p5
  obtain ⟨oa, oxs, rfl, ho1, ho2⟩ := dp_lst (dp_same e02 ho)
  have e25 := e3.trans (e4.trans e5)
  refine q_for (Hb := H2) (l := order) (fun R r => ⟨_, rfl, oa, rfl, ⟨oxs, sql_same e25 ho1⟩, r⟩) (walkL_list ho1 ho2).map
    (fun i σ' H' => ∃ ia sa fv fr t kvs ikvs o6 o7 o8 o9 o10 o11 o12 o13 o14 o15 o16, σ' = [some v, some (.ref oa), some nv, some (.ref ia), some fv, some (.ref sa), o6, o7, o8, o9, o10, o11, o12, o13, o14, o15, o16] ∧ Same H2 H' ∧ H' ia = some (.dK ikvs) ∧ ikvs.map (·.1) = (order.take i).map kM ∧ H2 ia = none ∧
      Dp K H' fv (.list (fr.map natD)) ∧ H' sa = some (.dT kvs) ∧ TabG kT K H' kvs t ∧ SF.TInv h es (order.take i) fr t ∧ t.length ≤ 2 ^ i)
    ⟨ia, sa, fv, [], [([], [((0, 0), 1)])], [([], val)], [], _, _, _, _, _, _, _, _, _, _, _, rfl, e25, (e4.trans e5) _ _ hia, rfl, nia, dp_same e5 hfv, hsa, .cons ⟨rfl, hval⟩ .nil, SF.TInv.start, Nat.le_refl _⟩
    (fun i σ' H' ⟨_, _, _, _, _, _, _, _, _, _, _, _, _, _, _, _, _, _, _, sm, _⟩ => sm) (fun i u x σ' H' H'' hu pv' e yd => ?_) (fun σ' H' pv' => ?_)
  · obtain ⟨ia, sa, fv, fr, t, kvs, ikvs, o6, o7, o8, o9, o10, o11, o12, o13, o14, o15, o16, rfl, sm, hia, hik, nia, hfv, hsa, tb, T, tl⟩ := pv'
    cases dp_int yd
    have sm2 := sm.trans e
    have um : u ∈ order := List.mem_of_getElem? hu
    have hi : i < order.length := (List.getElem?_eq_some_iff.mp hu).1
    have n6 := wf.hi
    have tk : order.take (i + 1) = order.take i ++ [u] := take_next hu
    have un : u ∉ order.take i := fun z => by
      have := ond.sublist (List.take_sublist (i + 1) order)
      rw [tk, List.nodup_append] at this
      exact this.2.2 _ z _ (by simp) rfl
    have p5 : 2 ^ i ≤ 2 ^ 5 := Nat.pow_le_pow_right (by omega) (by omega)
    refine vertex_step (S := S.same (e02.trans sm2)) wf (N.same (hide_of sm2 nia)) (e _ _ hia) hik (dp_same e hfv) (e _ _ hsa) (tb.up (.of e)) T (ond.sublist (List.take_sublist _ _)) (fun w hw => olt w (List.mem_of_mem_take hw)) un (olt u um) (by rw [List.length_take]; omega) (by omega)
      fun H3 ikvs' fol fr' la lkvs lt z6 z7 z8 z9 z10 z11 z12 z13 z14 z15 z16 s3 h3 k3 f3 l3 t3 T3 ll3 n3 => ?_
    refine ⟨ia, la, fol, fr', lt, lkvs, ikvs', _, _, _, _, _, _, _, _, _, _, _, rfl, (hide_of sm2 nia).trans s3, h3, by rw [tk]; exact k3, nia, f3, l3, t3, by rw [tk]; exact T3, ?_⟩
    rw [Nat.pow_succ]; omega
  · obtain ⟨ia, sa, fv, fr, t, kvs, ikvs, o6, o7, o8, o9, o10, o11, o12, o13, o14, o15, o16, rfl, sm, hia, hik, nia, hfv, hsa, tb, T, tl⟩ := pv'
    rw [List.take_length] at T
    obtain ⟨rfl, rfl⟩ := T.end_ wf oall
    cases tb with
    | @cons kv _ kvs' _ hkv tb' =>
      cases tb'
      obtain ⟨k0, val'⟩ := kv
      obtain ⟨hk0, hval'⟩ := hkv
      have hk0 : k0 = [] := hk0
      subst hk0
      refine s_end (Q := Q) (P := fun u H' => Dp K H' u (polyD (SF.Z h es))) (fun H1 e1 Q1 q1 => ⟨_, rfl, Nat.zero_le _, fun p np => ⟨sa, val', rfl, ?_, q1 _ _ (same_new np) (dp_same (e1.trans (same_new np)) hval')⟩⟩) fun u H' e hd => k u H' ((e02.trans sm).trans e) hd
      have := DGet.t (H := upd H1 p (.tup [])) (a := sa) (b := p) (kvs := [([], val')]) (k := []) (by rw [upd_ne (ne_of_none (e1 _ _ hsa) np)]; exact e1 _ _ hsa) upd_same
      exact this
theorem ok_trans {f fO fN fF fP fL fT : Addr} {fd fdO fdN fdF fdP fdL fdT : FuncData} (F : Fun K "sum_by_transfer" "sum_by_transfer" sTrans f fd)
    (GO : FnOk P w K mg base CX0 1 fO fdO ["spins", "order"] (spOrder K C)) (gO : mg "check_order" = some (.ref fO)) (kO : PySem.W.keepIn K (.ref fO) = true) (bO : Binds K fdO ["spins", "order"] [])
    (GN : FnOk P w K mg base CX0 1 fN fdN ["spins"] (spNear K C)) (gN : mg "near_of" = some (.ref fN)) (kN : PySem.W.keepIn K (.ref fN) = true) (bN : Binds K fdN ["spins"] [])
    (GF : FnOk P w K mg base CX0 1 fF fdF ["near", "inside"] (spFront K)) (gF : mg "frontier_of" = some (.ref fF)) (kF : PySem.W.keepIn K (.ref fF) = true) (bF : Binds K fdF ["near", "inside"] [])
    (GP : FnOk P w K mg base CX0 1 fP fdP ["spins", "near", "kept", "vertex", "spin"] (spPaid K C)) (gP : mg "paid_beside" = some (.ref fP)) (kP : PySem.W.keepIn K (.ref fP) = true) (bP : Binds K fdP ["spins", "near", "kept", "vertex", "spin"] [])
    (GL : FnOk P w K mg base CX0 3 fL fdL ["p", "q"] (spD K domPlus)) (gL : mg "plus" = some (.ref fL)) (kL : PySem.W.keepIn K (.ref fL) = true) (bL : Binds K fdL ["p", "q"] [])
    (GT : FnOk P w K mg base CX0 2 fT fdT ["p", "q"] (spD K domTimes)) (gT : mg "times" = some (.ref fT)) (kT : PySem.W.keepIn K (.ref fT) = true) (bT : Binds K fdT ["p", "q"] [])
    (mz : mg "zip" = none) (md : mg "dict" = none) (mt : mg "tuple" = none) :
    FnOk P w K mg base CX0 4 f fd ["spins", "order"] (spTrans K C) := by
  refine F.ok scTrans (fun vs H Q E h => ?_) (fun cdv A outer s H vs Q E hr h => ⟨t_trans K C, ?_, pure_trans vs H Q E h⟩)
  · obtain ⟨v, ov, h, es, order, rfl, _⟩ := h; rfl
  · have hu := hu_of hr
    have hr1 : Room 1 _ := hr.mono (by decide)
    have hr2 : Room 2 _ := hr.mono (by decide)
    exact pss_cons (ps_expr (pe_call GO hr1 rfl gO kO bO .nil pass0 (pa_cons (pv 0) (pa_cons (pv 1) pa_nil))))
      (pss_cons (ps_set (i := 2) scTrans.nd rfl (.inl rfl) (by exact (pe_call GN hr1 rfl gN kN bN .nil pass0 (pa_cons (pv 0) pa_nil))))
      (pss_cons (ps_set (i := 3) scTrans.nd rfl (.inl rfl) pe_dnewK)
      (pss_cons (ps_set (i := 4) scTrans.nd rfl (.inl rfl) (pe_lst pa_nil))
      (pss_cons (ps_set (i := 5) scTrans.nd rfl (.inl rfl) (by exact (pe_dispT hu (pe_tup pa_nil) (pe_tup (pa_cons (pe_tup (pa_cons (pe_tup (pa_cons pe_int (pa_cons pe_int pa_nil))) (pa_cons pe_int pa_nil))) pa_nil)))))
      (pss_cons (ps_for PassesOwn.never rfl (pi_list (pv 1)) (pg_name (i := 6) scTrans.nd rfl (.inl rfl))
        (pss_cons (ps_dput hu (pv 3) (pv 6) pe_bl rfl)
        (pss_cons (ps_set (i := 7) scTrans.nd rfl (.inl rfl) (by exact (pe_call GF hr1 rfl gF kF bF .nil pass0 (pa_cons (pv 2) (pa_cons (pv 3) pa_nil)))))
        (pss_cons (ps_set (i := 8) scTrans.nd rfl (.inl rfl) pe_dnewT)
        (pss_cons (ps_lock (ps_for PassesOwn.never rfl (by exact (pi_itemsT (pv 5))) (by exact (pg_tup rfl (pgs_cons (pg_name (i := 9) scTrans.nd rfl (.inl rfl)) (pgs_cons (pg_name (i := 10) scTrans.nd rfl (.inl rfl)) pgs_nil))))
          (pss_cons (ps_set (i := 11) scTrans.nd rfl (.inl rfl) (by exact (pe_dictZip rfl (by rfl) md (by rfl) mz (pa_cons (pv 4) (pa_cons (pv 9) pa_nil)))))
          (pss_one (ps_for PassesOwn.never rfl (by exact (pi_tup (pe_tup (pa_cons pe_int (pa_cons pe_int pa_nil))))) (pg_name (i := 12) scTrans.nd rfl (.inl rfl))
            (pss_cons (ps_set (i := 13) scTrans.nd rfl (.inl rfl) (by exact (pe_call GP hr1 rfl gP kP bP .nil pass0 (pa_cons (pv 0) (pa_cons (pv 2) (pa_cons (pv 11) (pa_cons (pv 6) (pa_cons (pv 12) pa_nil))))))))
            (pss_cons (ps_set (i := 14) scTrans.nd rfl (.inr rfl) (by exact (pe_callTy call_dictD (by rfl) md b_dict (pa_cons (pv 11) pa_nil))))
            (pss_cons (ps_dput hu (pv 14) (pv 6) (pv 12) rfl)
            (pss_cons (ps_set (i := 15) scTrans.nd rfl (.inl rfl) (by exact (pe_callTy call_tuple_of (by rfl) mt b_tuple (pa_cons (pe_lc (own := [("other", 16)]) (g := gName 16) (tt := tYes) (te := tDGet (tVar 14) (tVar 16)) rfl scTrans.nd (pi_list (pv 7)) (blkOk_by (N := nTrans) (sc := defScope sTrans) (by decide +kernel))
                (fun _ _ _ _ _ => pg_name (i := 16) scTrans.nd rfl (.inl rfl)) (fun _ _ _ _ _ => pts_nil) (fun _ _ _ _ _ => pe_dget hu (pv 14) (pv 16) (fun _ _ => rfl))) pa_nil))))
            (pss_one (ps_dput hu (pv 8) (pv 15) (by exact (pe_call GL hr rfl gL kL bL .nil pass0 (pa_cons (pe_dget2 hu (pv 8) (pv 15) (pe_tup pa_nil) ⟨rfl, rfl, rfl, rfl⟩) (pa_cons (pe_call GT hr2 rfl gT kT bT .nil pass0 (pa_cons (pv 10) (pa_cons (pe_tup (pa_cons (pe_tup (pa_cons (pe_tup (pa_cons (pv 13) (pa_cons (pv 12) pa_nil))) (pa_cons pe_int pa_nil))) pa_nil)) pa_nil))) pa_nil)))) rfl)))))))))))
        (pss_cons (ps_set (i := 4) scTrans.nd rfl (.inl rfl) (pv 7)) (pss_one (ps_set (i := 5) scTrans.nd rfl (.inl rfl) (pv 8)))))))))
      (pss_one (ps_ret (by exact (pe_dget hu (pv 5) (pe_tup pa_nil) (fun _ _ => rfl))))))))))
end
end SFW

set_option maxRecDepth 100000
set_option maxHeartbeats 4000000
/-! # Clusters: SpinFactors, Gatherer -/
namespace SFW
open PySem PySem.Spec PyProof.Rows L2
open SF (Poly)
abbrev sGatI : Stmt := inClass (topS 14) 0
abbrev sTotal : Stmt := inClass (topS 14) 1
abbrev sPut : Stmt := inClass (topS 14) 2
abbrev sFacI : Stmt := inClass (topS 15) 0
abbrev sOf : Stmt := inClass (topS 15) 1
theorem scFacI : FnScope ["self", "fields"] ["self", "fields"] (defScope sFacI) := ⟨rfl, rfl, rfl, by decide +kernel, rfl, by decide +kernel, by decide +kernel⟩
abbrev nOf : List Str := ["self", "vertices", "field", "vertex"]
theorem scOf : FnScope nOf ["self", "vertices"] (defScope sOf) := ⟨rfl, rfl, rfl, by decide +kernel, rfl, by decide +kernel, by decide +kernel⟩
abbrev nGatI : List Str := ["self", "count", "edges", "at", "u", "v"]
theorem scGatI : FnScope nGatI ["self", "count", "edges"] (defScope sGatI) := ⟨rfl, rfl, rfl, by decide +kernel, rfl, by decide +kernel, by decide +kernel⟩
structure FacTxt (K : PySem.W.Frag) (CF : Addr) : Prop where
  cl : Cls K CF
  nf : NoAttr K CF "_fields"
structure GatTxt (K : PySem.W.Frag) (CG : Addr) : Prop where
  cl : Cls K CG
  nc : NoAttr K CG "_count"
  ne : NoAttr K CG "_edges"
  nl : NoAttr K CG "_last"
def FacAt (K : PySem.W.Frag) (CF : Addr) (H : Hp) (v : V) (h : List Int) : Prop := ∃ a dx fv, v = .ref a ∧ H a = some (.ins CF dx [("_fields", fv)]) ∧ Dp K H fv (fieldsD h)
theorem FacAt.same {K : PySem.W.Frag} {CF : Addr} {H H' : Hp} {v : V} {h : List Int} (e : Same H H') (x : FacAt K CF H v h) : FacAt K CF H' v h := let ⟨a, dx, fv, e1, e2, e3⟩ := x; ⟨a, dx, fv, e1, e _ _ e2, dp_same e e3⟩
def gatF (n : Int) (ev lv : V) : List (Str × V) := [("_count", .int n), ("_edges", ev), ("_last", lv)]
theorem ce_ne : ¬ (("_count" : Str) = "_edges") := by decide +kernel
theorem cl_ne : ¬ (("_count" : Str) = "_last") := by decide +kernel
theorem el_ne : ¬ (("_edges" : Str) = "_last") := by decide +kernel
theorem gat_c (n : Int) (ev lv : V) : (gatF n ev lv).lookup ("_count" : Str) = some (.int n) := by simp [gatF, List.lookup]
theorem gat_e (n : Int) (ev lv : V) : (gatF n ev lv).lookup ("_edges" : Str) = some ev := by
  have h : (("_edges" : Str) == "_count") = false := beq_eq_false_iff_ne.mpr (Ne.symm ce_ne)
  simp [gatF, List.lookup, h]
theorem gat_l (n : Int) (ev lv : V) : (gatF n ev lv).lookup ("_last" : Str) = some lv := by
  have h : (("_last" : Str) == "_count") = false := beq_eq_false_iff_ne.mpr (Ne.symm cl_ne)
  have h2 : (("_last" : Str) == "_edges") = false := beq_eq_false_iff_ne.mpr (Ne.symm el_ne)
  simp [gatF, List.lookup, h, h2]
abbrev lastD (n : Nat) (es : List SF.Edge) : PyData := .list (((List.range n).map (SF.lastF es)).map PyData.int)
def GatAt (K : PySem.W.Frag) (CG : Addr) (H : Hp) (v : V) (n : Nat) (es : List SF.Edge) : Prop := ∃ a dx ev lv, v = .ref a ∧ H a = some (.ins CG dx (gatF (n : Int) ev lv)) ∧ Dp K H ev (.list (es.map endsD)) ∧ Dp K H lv (lastD n es)
theorem GatAt.same {K : PySem.W.Frag} {CG : Addr} {H H' : Hp} {v : V} {n : Nat} {es : List SF.Edge} (e : Same H H') (x : GatAt K CG H v n es) : GatAt K CG H' v n es := let ⟨a, dx, ev, lv, e1, e2, e3, e4⟩ := x; ⟨a, dx, ev, lv, e1, e _ _ e2, dp_same e e3, dp_same e e4⟩
section
variable {P : Program} {w : World} {K : PySem.W.Frag} {mg : Str → Option Value} {base : Heap} {C CF CG : Addr}
def spFacI (CF : Addr) : Sp := fun vs H Q _ => ∃ p dx fv, vs = [.ref p, fv] ∧ H p = some (.ins CF dx []) ∧ ∀ H', (∀ b o, H b = some o → b ≠ p → H' b = some o) → H' p = some (.ins CF dx [("_fields", fv)]) → Q .non H'
theorem ok_facI {f : Addr} {fd : FuncData} (F : Fun K "__init__" "SpinFactors.__init__" sFacI f fd) (T : FacTxt K CF) : FnOk P w K mg base CX0 1 f fd ["self", "fields"] (spFacI CF) := by
  refine F.ok scFacI (fun vs H Q E h => ?_) (fun cdv A outer s H vs Q E hr h => ?_)
  · obtain ⟨p, dx, fv, rfl, _⟩ := h; rfl
  · obtain ⟨p, dx, fv, rfl, hp, k⟩ := h
    refine ⟨_, pss_one (ps_fld (pv 0) (pv 1) rfl), ?_⟩
    exact ⟨_, rfl, _, rfl, p, CF, dx, [], rfl, hp, T.cl, T.nf, by show 0 < 1000; decide, k _ (fun b o hb hne => by rw [upd_ne hne]; exact hb) upd_same⟩
def spOf (K : PySem.W.Frag) (CF : Addr) : Sp := fun vs H Q _ => ∃ (sv vv : V) (h : List Int) (g : List Nat), vs = [sv, vv] ∧ FacAt K CF H sv h ∧ Dp K H vv (.list (g.map natD)) ∧ (∀ u ∈ g, u < h.length) ∧ g.length ≤ 6 ∧
  ∀ u H', Same H H' → Dp K H' u (polyD (SF.cf [((0, 0), 1), (((g.map (SF.fld h)).sum, (g.length : Int)), 1)])) → Q u H'
theorem ok_of {f fP : Addr} {fd fdP : FuncData} (F : Fun K "of" "SpinFactors.of" sOf f fd) (T : FacTxt K CF) (GP : FnOk P w K mg base CX0 2 fP fdP ["terms"] (spD K domPoly)) (gP : mg "polynomial" = some (.ref fP)) (kP : PySem.W.keepIn K (.ref fP) = true) (bP : Binds K fdP ["terms"] [])
    (ms : mg "sum" = none) (ml : mg "len" = none) : FnOk P w K mg base CX0 3 f fd ["self", "vertices"] (spOf K CF) := by
  refine F.ok scOf (fun vs H Q E h => ?_) (fun cdv A outer s H vs Q E hr h => ?_)
  · obtain ⟨sv, vv, h, g, rfl, _⟩ := h; rfl
  · obtain ⟨sv, vv, h, g, rfl, S, hg, gl, g6, k⟩ := h
    refine ⟨_, pss_cons (ps_set (i := 2) scOf.nd rfl (.inl rfl) (pe_callB (cr_sum rfl) (by rfl) ms b_sum (pa_cons (pe_lc (own := [("vertex", 3)]) (g := gName 3) (tt := tYes) (te := tOp (rIxT K) (tFld K (tVar 0) "_fields") (tVar 3)) rfl scOf.nd (pi_list (pv 1)) (blkOk_by (N := nOf) (sc := defScope sOf) (by decide +kernel))
        (fun _ _ _ _ _ => pg_name (i := 3) scOf.nd rfl (.inl rfl)) (fun _ _ _ _ _ => pts_nil) (fun _ _ _ _ _ => pe_ix ix_tup (pe_fld (pv 0) rfl) (pv 3) (fun _ _ => rfl))) pa_nil)))
      (pss_one (ps_ret (pe_call GP hr rfl gP kP bP .nil pass0 (pa_cons (pe_lst (pa_cons (pe_tup (pa_cons (pe_tup (pa_cons pe_int (pa_cons pe_int pa_nil))) (pa_cons pe_int pa_nil)))
        (pa_cons (pe_tup (pa_cons (pe_tup (pa_cons (pv 2) (pa_cons (pe_callB call_len_seq (by rfl) ml b_len (pa_cons (pv 1) pa_nil)) pa_nil))) (pa_cons pe_int pa_nil))) pa_nil))) pa_nil)))), ?_⟩
    refine q_set (evv_sum (K := K) (ns := g.map (SF.fld h)) ?_) fun u H1 e1 p1 => ?_
    · rw [List.map_map]
      refine evd_lcA (src_list (evd_var rfl hg)).map (by rw [sizeLine_eq]; omega) _ (fun _ => rfl) fun t x H' ht e yd R kk => ?_
      cases dp_int yd
      refine kk _ (wipe_set1 _ _ _) (evd_ixT (i := t) (ds := h.map PyData.int) (evp_fld (evp_var rfl fun H2 e2 => ?_)) (evv_var rfl) (ints_at ?_))
      · obtain ⟨a, dx, fv, rfl, h1, h2⟩ := S.same (e.trans e2)
        exact ⟨a, CF, dx, _, fv, rfl, h1, T.cl, T.nf, by simp [List.lookup], h2⟩
      · have := gl t ht
        simp [SF.fld, List.getD, List.getElem?_eq_getElem this]
    · subst p1
      refine s_end (Q := Q) (evd_call (K := K) (ds := [.list ([((0, 0), 1), (((g.map (SF.fld h)).sum, (g.length : Int)), 1)].map termD)]) (ead_cons (evd_lst (ead_cons (evd_tup (ead_cons (evd_tup (ead_cons evd_int (ead_cons evd_int ead_nil)) (by show 2 ≤ sizeLine; decide)) (ead_cons evd_int ead_nil)) (by show 2 ≤ sizeLine; decide))
        (ead_cons (evd_tup (ead_cons (evd_tup (ead_cons (evv_d (evv_var rfl)) (ead_cons (evv_d ((evv_lenL (evd_var rfl (dp_same e1 hg))).vis (by rw [List.length_map]))) ead_nil)) (by show 2 ≤ sizeLine; decide)) (ead_cons evd_int ead_nil)) (by show 2 ≤ sizeLine; decide)) ead_nil)) (by show 2 ≤ sizeLine; decide)) ead_nil)
        ⟨_, .inl rfl, by show 2 < sizeLine; decide, rfl⟩) fun v H' e hd => k v H' (e1.trans e) hd
theorem ixN_nat {n j : Nat} (hj : j < n) : ixN n (j : Int) = some j := by
  unfold ixN
  rw [if_pos (by omega), if_pos (by omega)]
  simp
theorem sameD_but {H H' : Hp} {p : Addr} {o : HO} (hp : H p = some o) (n : noSeq o = true) (e : ∀ b o, H b = some o → b ≠ p → H' b = some o) : SameD H H' := by
  have key : ∀ b v, Rd H b v → noSeq v = false → Rd H' b v := fun b v r hv => by
    have hb : b ≠ p := fun z => by
      subst z
      rcases r with r | ⟨o', r⟩ <;> rw [hp] at r <;> cases r
      · rw [n] at hv; cases hv
      · cases n
    rcases r with r | ⟨o', r⟩
    · exact .inl (e _ _ r hb)
    · exact .inr ⟨o', e _ _ r hb⟩
  exact ⟨fun b xs r => key b _ r rfl, fun b xs r => key b _ r rfl⟩
abbrev lastL (n : Nat) (es : List SF.Edge) (i : Nat) : List Int := (List.range n).map (SF.lastF (es.take i))
theorem last_step {n : Nat} {es : List SF.Edge} {i : Nat} {e : SF.Edge} (he : es[i]? = some e) : lastL n es (i + 1) = ((lastL n es i).set e.1 (i : Int)).set e.2.1 (i : Int) := by
  have hi : i < es.length := (List.getElem?_eq_some_iff.mp he).1
  apply List.ext_getElem
  · simp
  · intro x h1 h2
    have hx : x < n := by simpa using h1
    simp only [List.getElem_set, List.getElem_map, List.getElem_range]
    rw [take_next he, SF.last_snoc, List.length_take, Nat.min_eq_left (by omega)]
    by_cases a : e.2.1 = x
    · rw [if_pos (.inr a), if_pos a]
    · rw [if_neg a]
      by_cases b : e.1 = x
      · rw [if_pos (.inl b), if_pos b]
      · rw [if_neg (not_or.mpr ⟨b, a⟩), if_neg b]
theorem last_zero (n : Nat) (es : List SF.Edge) : lastL n es 0 = List.replicate n (-1) := by
  unfold lastL
  rw [List.take_zero]
  apply List.ext_getElem
  · simp
  · intro x h1 h2
    simp [SF.lastF]
def spGatI (K : PySem.W.Frag) (CG : Addr) : Sp := fun vs H Q _ => ∃ (p dx : Addr) (ev : V) (n : Nat) (es : List SF.Edge), vs = [.ref p, .int (n : Int), ev] ∧ H p = some (.ins CG dx []) ∧ Dp K H ev (.list (es.map endsD)) ∧ (∀ e ∈ es, e.1 < n ∧ e.2.1 < n) ∧ n ≤ 6 ∧
  ∀ H' lv, (∀ b o, H b = some o → b ≠ p → H' b = some o) → H' p = some (.ins CG dx (gatF (n : Int) ev lv)) → Dp K H' lv (lastD n es) → Q .non H'
theorem ok_gatI {f : Addr} {fd : FuncData} (F : Fun K "__init__" "Gatherer.__init__" sGatI f fd) (T : GatTxt K CG) (me : mg "enumerate" = none) : FnOk P w K mg base CX0 1 f fd ["self", "count", "edges"] (spGatI K CG) := by
  refine F.ok scGatI (fun vs H Q E h => ?_) (fun cdv A outer s H vs Q E hr h => ?_)
  · obtain ⟨p, dx, ev, n, es, rfl, _⟩ := h; rfl
  · obtain ⟨p, dx, ev, n, es, rfl, hp, hev, lt, n6, k⟩ := h
    refine ⟨_, pss_cons (ps_fld (pv 0) (pv 1) rfl) (pss_cons (ps_fld (pv 0) (pv 2) rfl) (pss_cons (ps_fld (pv 0) (pe_op op_rep (pe_lst (pa_cons (pe_un un_neg pe_int) pa_nil)) (pv 1)) rfl)
      (pss_one (ps_for PassesOwn.never rfl (pi_enum (by rfl) me (pa_cons (pv 2) pa_nil)) (pg_tup rfl (pgs_cons (pg_name (i := 3) scGatI.nd rfl (.inl rfl)) (pgs_cons (pg_tup rfl (pgs_cons (pg_name (i := 4) scGatI.nd rfl (.inl rfl)) (pgs_cons (pg_name (i := 5) scGatI.nd rfl (.inl rfl)) pgs_nil))) pgs_nil)))
        (pss_cons (ps_asg (pv 3) (pg_sub (pe_fld (pv 0) rfl) (pv 4) set_list)) (pss_one (ps_asg (pv 3) (pg_sub (pe_fld (pv 0) rfl) (pv 5) set_list)))))))), ?_⟩
    refine ⟨_, rfl, _, rfl, p, CG, dx, [], rfl, hp, T.cl, T.nc, by show 0 < 1000; decide, _, rfl, _, rfl, p, CG, dx, _, rfl, upd_same, T.cl, T.ne, by show 1 < 1000; decide, ?_⟩
    have e2 : putF "_edges" ev (putF "_count" (.int (n : Int)) []) = ([("_count", .int (n : Int)), ("_edges", ev)] : List (Str × V)) := by
      show (if ("_count" : Str) = "_edges" then _ else (("_count" : Str), V.int (n : Int)) :: putF "_edges" ev []) = _
      rw [if_neg ce_ne]; rfl
    rw [e2, upd_upd]
    refine ⟨1, rfl, by show 1 ≤ sizeLine; decide, fun l0 n0 => ?_⟩
    have p0 : l0 ≠ p := fun z => by rw [z, upd_same] at n0; cases n0
    refine ⟨_, rfl, l0, _, _, rfl, rfl, upd_same, by omega, by omega, by rw [sizeLine_eq]; simp; omega, fun la na => ?_⟩
    have la0 : la ≠ l0 := fun z => by rw [z, upd_same] at na; cases na
    have pla : la ≠ p := fun z => by rw [z, upd_ne p0.symm, upd_same] at na; cases na
    have ea0 : (List.replicate ((n : Int)).toNat ([V.int (-1)] : List V)).flatten = (lastL n es 0).map V.int := by
      rw [last_zero, List.flatten_replicate_singleton]
      simp
    rw [ea0]
    refine ⟨_, rfl, p, CG, dx, _, rfl, by rw [upd_ne pla.symm, upd_ne p0.symm]; exact upd_same, T.cl, T.nl, by show 2 < 1000; decide, ?_⟩
    have e3 : putF "_last" (.ref la) ([("_count", .int (n : Int)), ("_edges", ev)] : List (Str × V)) = gatF (n : Int) ev (.ref la) := by
      show (if ("_count" : Str) = "_last" then _ else (("_count" : Str), V.int (n : Int)) :: (if ("_edges" : Str) = "_last" then _ else (("_edges" : Str), ev) :: putF "_last" (.ref la) [])) = _
      rw [if_neg cl_ne, if_neg el_ne]; rfl
    rw [e3]
    dsimp only
    have nl0 : H l0 = none := by rw [upd_ne p0] at n0; exact n0
    have nla : H la = none := by rw [upd_ne la0, upd_ne pla] at na; exact na
    obtain ⟨ea, exs, rfl, he1, he2⟩ := dp_lst hev
    have el : exs.length = es.length := by rw [dpa_len he2, List.length_map]
    have keep0 : ∀ b o, H b = some o → b ≠ p → upd (upd (upd (upd H p (.ins CG dx [("_count", .int (n : Int)), ("_edges", .ref ea)])) l0 (.lst [.int (-1)])) la (.lst ((lastL n es 0).map V.int))) p (.ins CG dx (gatF (n : Int) (.ref ea) (.ref la))) b = some o := fun b o hb hne => by
      rw [upd_ne hne, upd_ne (ne_of_none hb nla), upd_ne (ne_of_none hb nl0), upd_ne hne]; exact hb
    have sq : ∀ H', (∀ b o, H b = some o → b ≠ p → H' b = some o) → SqL K H' ea exs := fun H' hk => he1.imp ((sameD_but hp rfl hk).l _ _) id
    refine ⟨_, rfl, ea, exs, rfl, sq _ keep0, for_it (walk_enum (K := K) (a := ea) (xs := exs)) (fun i σ' H' => ∃ y3 y4 y5, σ' = [some (.ref p), some (.int (n : Int)), some (.ref ea), y3, y4, y5] ∧ (∀ b o, H b = some o → b ≠ p → H' b = some o) ∧ H' p = some (.ins CG dx (gatF (n : Int) (.ref ea) (.ref la))) ∧ H' la = some (.lst ((lastL n es i).map V.int)))
      ⟨none, none, none, rfl, keep0, upd_same, by rw [upd_ne pla]; exact upd_same⟩ (fun i σ' H' _ ⟨_, _, _, _, hk, _⟩ => sq _ hk) (fun i x σ' H' H'' hi pv' y => ?_) (fun σ' H' pv' => ?_)⟩
    · obtain ⟨y3, y4, y5, rfl, hk, hp', hla⟩ := pv'
      obtain ⟨T', a, b, rfl, nT, rfl, ha, hb⟩ := y
      cases ha
      obtain ⟨d, hd, pd⟩ := dpa_get he2 hb
      obtain ⟨e, he, rfl⟩ := map_at hd
      have em : e ∈ es := List.mem_of_getElem? he
      have pd' := dp_same (same_new (o := .tup [.int (i : Int), b]) nT) (dp_sameD (sameD_but hp rfl hk) pd)
      obtain ⟨pe, rfl, hpe⟩ := dp_ex pd'
      have Tp : p ≠ T' := ne_of_none hp' nT
      have Tl : la ≠ T' := ne_of_none hla nT
      refine ⟨T', _, rfl, .inl (.inl upd_same), rfl, _, _, rfl, _, _, rfl, ⟨pe, _, rfl, hpe, rfl, _, _, rfl, _, _, rfl, rfl, rfl, ?_⟩⟩
      have l1 := lt e em
      refine ⟨_, rfl, _, rfl, p, CG, dx, _, _, rfl, by rw [upd_ne Tp]; exact hp', T.cl, T.nl, gat_l _ _ _, _, rfl, la, _, _, e.1, rfl, rfl, by rw [upd_ne Tl]; exact hla, ixN_nat (by simp; exact l1.1), ?_⟩
      refine ⟨_, rfl, _, rfl, p, CG, dx, _, _, rfl, by rw [upd_ne pla.symm, upd_ne Tp]; exact hp', T.cl, T.nl, gat_l _ _ _, _, rfl, la, _, _, e.2.1, rfl, rfl, upd_same, ixN_nat (by simp; exact l1.2), ?_⟩
      refine ⟨_, _, _, rfl, fun b o hb hne => ?_, by rw [upd_ne pla.symm, upd_ne pla.symm, upd_ne Tp]; exact hp', ?_⟩
      · rw [upd_ne (ne_of_none hb nla), upd_ne (ne_of_none hb nla)]
        have := hk _ _ hb hne
        rw [upd_ne (ne_of_none this nT)]; exact this
      · rw [upd_same, last_step he, List.map_set, List.map_set]
    · obtain ⟨y3, y4, y5, rfl, hk, hp', hla⟩ := pv'
      rw [el] at hla
      refine k H' (.ref la) hk hp' ?_
      have := ints_list (K := K) hla
      rw [lastL, List.take_length] at this
      exact this
end
end SFW

set_option maxRecDepth 100000
set_option maxHeartbeats 4000000
/-! # Clusters: Gatherer._put -/
namespace SFW
open PySem PySem.Spec PyProof.Rows L2
open SF (Poly)
abbrev nPut : List Str := ["self", "sums", "parts", "number", "at", "factors", "groups", "vertex", "part", "found", "vertices", "key"]
theorem scPut : FnScope nPut ["self", "sums", "parts", "number", "at", "factors"] (defScope sPut) := ⟨rfl, rfl, rfl, by decide +kernel, rfl, by decide +kernel, by decide +kernel⟩
abbrev kI (c : Int) : L2.Key := Sum.inl c
abbrev natV (g : List Nat) : List V := g.map fun (u : Nat) => V.int (u : Int)
abbrev kvsOf (gs : List (Int × List Nat)) (ls : List Addr) : List (L2.Key × V) := (gs.zip ls).map fun x => (kI x.1.1, V.ref x.2)
structure GrpAt (H0 H : Hp) (ga : Addr) (gs : List (Int × List Nat)) (ls : List Addr) : Prop where
  at_ : H ga = some (.dK (kvsOf gs ls))
  len : ls.length = gs.length
  nd : ls.Nodup
  new : H0 ga = none ∧ ∀ l ∈ ls, H0 l = none ∧ l ≠ ga
  lst : ∀ (j : Nat) (l : Addr) (g : Int × List Nat), ls[j]? = some l → gs[j]? = some g → H l = some (.lst (natV g.2))
theorem gput_find {c : Int} {i : Nat} : ∀ {gs : List (Int × List Nat)}, c ∈ gs.map (·.1) → ∃ j g, gs[j]? = some g ∧ SF.gput gs c i = gs.set j (g.1, g.2 ++ [i]) ∧ ∀ (ls : List Addr) (l : Addr), ls[j]? = some l → valV (kvsOf gs ls) (kI c) = some (.ref l)
  | g :: r, h => by
    by_cases e : g.1 = c
    · refine ⟨0, g, rfl, by unfold SF.gput; rw [if_pos e]; rfl, fun ls l hl => ?_⟩
      cases ls with
      | nil => simp at hl
      | cons a ls =>
        have : a = l := by simpa using hl
        subst this
        exact valV_pos (by show kI g.1 = kI c; rw [e])
    · have h' : c ∈ r.map (·.1) := by
        rw [List.map_cons, List.mem_cons] at h
        rcases h with z | z
        · exact absurd z.symm e
        · exact z
      obtain ⟨j, g', h1, h2, h3⟩ := gput_find (i := i) h'
      refine ⟨j + 1, g', by simpa using h1, by unfold SF.gput; rw [if_neg e, h2]; rfl, fun ls l hl => ?_⟩
      cases ls with
      | nil => simp at hl
      | cons a ls =>
        show valV ((kI g.1, V.ref a) :: kvsOf r ls) (kI c) = _
        rw [valV_neg (fun z => e (Sum.inl.inj z))]
        exact h3 ls l (by simpa using hl)
theorem gput_new {c : Int} {i : Nat} : ∀ {gs : List (Int × List Nat)}, c ∉ gs.map (·.1) → SF.gput gs c i = gs ++ [(c, [i])] ∧ ∀ ls : List Addr, valV (kvsOf gs ls) (kI c) = none
  | [], _ => ⟨rfl, fun ls => rfl⟩
  | g :: r, h => by
    rw [List.map_cons, List.mem_cons, not_or] at h
    obtain ⟨h1, h2⟩ := gput_new (i := i) h.2
    have e : ¬ g.1 = c := fun z => h.1 z.symm
    refine ⟨by unfold SF.gput; rw [if_neg e, h1]; rfl, fun ls => ?_⟩
    cases ls with
    | nil => rfl
    | cons a ls =>
      show valV ((kI g.1, V.ref a) :: kvsOf r ls) (kI c) = _
      rw [valV_neg (fun z => e (Sum.inl.inj z))]
      exact h2 ls
theorem kvs_set (gs : List (Int × List Nat)) (ls : List Addr) (j : Nat) (g : Int × List Nat) (g' : List Nat) (h : gs[j]? = some g) : kvsOf (gs.set j (g.1, g')) ls = kvsOf gs ls := by
  induction gs generalizing j ls with
  | nil => simp at h
  | cons a r ih =>
    cases ls with
    | nil => cases j <;> simp [kvsOf]
    | cons b ls =>
      cases j with
      | zero =>
        have : a = g := by simpa using h
        subst this
        rfl
      | succ j =>
        show (kI a.1, V.ref b) :: kvsOf (r.set j (g.1, g')) ls = (kI a.1, V.ref b) :: kvsOf r ls
        rw [ih ls j (by simpa using h)]
def t_group (K : PySem.W.Frag) : TS := tIfS (tTest (tOp (rI0 fun i j => .bl (decide (j ≤ i))) (tVar 8) (tC (.int 0)))) (tDrop (tBM K "list" rAppend (tDSetd (tVar 6) (tVar 8) (tLst tNil)) (tCons (tVar 7) tNil))) tNext
section
variable {K : PySem.W.Frag}
/-- one vertex goes to its group -/
theorem group_step {D : Ends} {H0 H : Hp} {σ : L2.St} {ga : Addr} {gs : List (Int × List Nat)} {ls : List Addr} {c : Int} {i : Nat} (h6 : σ[6]? = some (some (.ref ga))) (h7 : σ[7]? = some (some (.int (i : Int)))) (h8 : σ[8]? = some (some (.int c))) (sm : Same H0 H) (G : GrpAt H0 H ga gs ls) (gl : gs.length ≤ 6) (gi : ∀ g ∈ gs, g.2.length ≤ 6)
    (n1 : 0 ≤ c → ∀ H' ls', Same H0 H' → GrpAt H0 H' ga (SF.gput gs c i) ls' → D.nx σ H') (n2 : c < 0 → ∀ H', Same H0 H' → GrpAt H0 H' ga gs ls → D.nx σ H') : t_group K D σ H := by
  have up : ∀ {H'}, Same H H' → GrpAt H0 H' ga gs ls := fun e => ⟨e _ _ G.at_, G.len, G.nd, G.new, fun j l g h1 h2 => e _ _ (G.lst j l g h1 h2)⟩
  refine s_when (evb_test (evv_ge (evv_var h8) evv_c)) (fun hb H1 e1 => ?_) (fun hb H1 e1 => n2 (by simpa using hb) H1 (sm.trans e1) (up e1))
  have hc : 0 ≤ c := by simpa using hb
  have G1 := up e1
  have sm1 := sm.trans e1
  have kl : (kvsOf gs ls).length ≤ 6 := by rw [List.length_map, List.length_zip]; omega
  refine ⟨_, h6, ga, rfl, .inl ⟨_, .inl G1.at_⟩, _, h8, Nat.zero_le _, fun z nz => ?_⟩
  have e2 : Same H1 (upd H1 z (.lst [])) := same_new nz
  have gaz : ga ≠ z := ne_of_none G1.at_ nz
  refine ⟨_, kI c, e2 _ _ G1.at_, rfl, by rw [sizeLine_eq]; omega, fun v hv => ?_, fun hv => ?_⟩
  · by_cases hm : c ∈ gs.map (·.1)
    · obtain ⟨j, g, h1, h2, h3⟩ := gput_find (i := i) hm
      have jl : j < ls.length := by rw [G.len]; exact (List.getElem?_eq_some_iff.mp h1).1
      have gj : ls[j]? = some ls[j] := List.getElem?_eq_getElem jl
      rw [h3 ls ls[j] gj] at hv
      cases hv
      have hl := e2 _ _ (G1.lst j _ g gj h1)
      have lm : ls[j] ∈ ls := List.getElem_mem jl
      refine ⟨.inl ⟨rfl, _, .inl (.inl hl)⟩, _, h7, ls[j], _, _, rfl, rfl, hl, by rw [List.length_map, sizeLine_eq]; have := gi g (List.mem_of_getElem? h1); omega, ?_⟩
      refine n1 hc _ ls (same_mut (sm1.trans e2) (G.new.2 _ lm).1) ⟨?_, ?_, G.nd, G.new, fun j' l g' h4 h5 => ?_⟩
      · rw [h2, kvs_set gs ls j g _ h1, upd_ne (G.new.2 _ lm).2.symm]
        exact e2 _ _ G1.at_
      · rw [h2, List.length_set]; exact G.len
      · rw [h2, List.getElem?_set] at h5
        by_cases hj : j = j'
        · subst hj
          rw [gj] at h4; cases h4
          rw [if_pos rfl, if_pos (by rw [← G.len]; exact jl)] at h5
          cases h5
          rw [upd_same]
          show some (HO.lst (natV g.2 ++ [V.int (i : Int)])) = some (.lst (natV (g.2 ++ [i])))
          rw [natV, natV, List.map_append]; rfl
        · rw [if_neg hj] at h5
          have hne : l ≠ ls[j] := fun z => hj (nd_ix G.nd gj (z ▸ h4))
          rw [upd_ne hne]
          exact e2 _ _ (G1.lst j' l g' h4 h5)
    · rw [(gput_new (i := i) hm).2 ls] at hv; cases hv
  · by_cases hm : c ∈ gs.map (·.1)
    · obtain ⟨j, g, h1, h2, h3⟩ := gput_find (i := i) hm
      have jl : j < ls.length := by rw [G.len]; exact (List.getElem?_eq_some_iff.mp h1).1
      rw [h3 ls ls[j] (List.getElem?_eq_getElem jl)] at hv; cases hv
    · have g1 := (gput_new (i := i) hm).1
      have pk : putK (kvsOf gs ls) (kI c) (.ref z) = kvsOf gs ls ++ [(kI c, .ref z)] := putK_new _ hv
      rw [pk]
      have hz2 : upd (upd H1 z (.lst [])) ga (.dK (kvsOf gs ls ++ [(kI c, .ref z)])) z = some (.lst []) := by rw [upd_ne gaz.symm]; exact upd_same
      have nz0 : H0 z = none := sm1.free nz
      have zl : z ∉ ls := fun hz => by
        obtain ⟨j, hj⟩ := List.getElem?_of_mem hz
        have jl : j < gs.length := by rw [← G.len]; exact (List.getElem?_eq_some_iff.mp hj).1
        have := G1.lst j z gs[j] hj (List.getElem?_eq_getElem jl)
        rw [nz] at this; cases this
      refine ⟨.inl ⟨rfl, _, .inl (.inl hz2)⟩, _, h7, z, _, _, rfl, rfl, hz2, by show 0 < sizeLine; decide, ?_⟩
      refine n1 hc _ (ls ++ [z]) (same_mut (same_mut (sm1.trans e2) G.new.1) nz0) ⟨?_, ?_, ?_, ⟨G.new.1, fun l hl => ?_⟩, fun j l g h4 h5 => ?_⟩
      · rw [g1, upd_ne gaz, upd_same]
        have : kvsOf (gs ++ [(c, [i])]) (ls ++ [z]) = kvsOf gs ls ++ [(kI c, .ref z)] := by
          unfold kvsOf
          rw [List.zip_append G.len.symm, List.map_append]; rfl
        rw [this]
      · rw [g1, List.length_append, List.length_append, G.len]; rfl
      · rw [List.nodup_append]
        refine ⟨G.nd, by simp, fun a ha b hb => ?_⟩
        have : b = z := by simpa using hb
        subst this
        exact fun w => zl (w ▸ ha)
      · rcases List.mem_append.mp hl with w | w
        · exact G.new.2 l w
        · have : l = z := by simpa using w
          subst this
          exact ⟨nz0, gaz.symm⟩
      · rw [g1] at h5
        by_cases hj : j < ls.length
        · rw [List.getElem?_append_left hj] at h4
          rw [List.getElem?_append_left (by rw [← G.len]; exact hj)] at h5
          have lm : l ∈ ls := List.mem_of_getElem? h4
          have lz : l ≠ z := fun w => zl (w ▸ lm)
          rw [upd_ne lz, upd_ne (G.new.2 l lm).2, upd_ne lz]
          exact G1.lst j l g h4 h5
        · have j0 : j = ls.length := by
            have := (List.getElem?_eq_some_iff.mp h4).1
            simp at this; omega
          subst j0
          rw [List.getElem?_append_right (Nat.le_refl _)] at h4
          rw [G.len, List.getElem?_append_right (Nat.le_refl _)] at h5
          have e4 : z = l := by simpa using h4
          have e5 : (c, [i]) = g := by simpa using h5
          subst e4 e5
          exact upd_same
theorem evp_meth {σ : L2.St} {H : Hp} {P : V → Hp → Prop} {C : Addr} {m : Str} {sp : Sp} {E : XK} {i : Nat} {x : V} {tr : TA} {vs : List V} (hv : σ[i]? = some (some x)) (hx : ∀ H', Same H H' → ∃ a dx fs, x = .ref a ∧ H' a = some (.ins C dx fs) ∧ fs.lookup m = none) (ha : EvAV tr σ H vs)
    (k : ∀ H1, Same H H1 → ∀ Q : VK, (∀ v H2, Same H1 H2 → P v H2 → Q v H2) → sp (x :: vs) H1 Q E) : EvP (tMeth C m sp [] E (tVar i) tr) σ H P := fun H1 e1 Q q => by
  obtain ⟨a, dx, fs, rfl, h1, h2⟩ := hx H1 e1
  refine ⟨_, hv, a, dx, fs, rfl, h1, h2, ha H1 e1 _ fun us H2 e2 p2 => ?_⟩
  rw [p2, List.append_nil]
  exact k H2 (e1.trans e2) Q fun v H3 e3 p3 => q v H3 (e2.trans e3) p3
theorem of_ne : ¬ (("of" : Str) = "_fields") := by decide +kernel
theorem fac_of (fv : V) : ([("_fields", fv)] : List (Str × V)).lookup ("of" : Str) = none := by
  have h : (("of" : Str) == "_fields") = false := beq_eq_false_iff_ne.mpr of_ne
  simp [List.lookup, h]
def t_mark (K : PySem.W.Frag) (CF : Addr) : TS :=
  tIfS (tB (tCB (rAll K) (tCons (tLc (iList K (tVar 10)) (gName 7) tYes (tOp (rI0 fun i j => .bl (decide (i ≤ j))) (tOp (rIxL K) (tFld K (tVar 0) "_last") (tVar 7)) (tVar 4)) [7]) tNil)))
    (tSeq (tAsg (tCall (spD K domTimes) [] E0 (tCons (tVar 3) (tCons (tMeth CF "of" (spOf K CF) [] E0 (tVar 5) (tCons (tVar 10) tNil)) tNil))) (gName 3))
      (tFor (iList K (tVar 10)) (gName 7) (tAsg (tUn (rU fun i => .int (-i)) (tC (.int 1))) (gSub (tVar 9) (tVar 7) rSetL)))) tNext
/-- one group: done or not -/
theorem mark_step {CG CF : Addr} {D : Ends} {H : Hp} {sv sums pv num fv : V} {s6 o7 o8 o11 : Option V} {fa l : Addr} {h : List Int} {es : List SF.Edge} {k : Nat} {g : List Nat} {q : Poly} {found : List Int}
    (TG : GatTxt K CG) (G : GatAt K CG H sv h.length es) (F : FacAt K CF H fv h) (wf : SF.Wf h es) (kl : k ≤ es.length) (hl : H l = some (.lst (natV g))) (lf : l ≠ fa) (gl : ∀ u ∈ g, u < h.length) (g6 : g.length ≤ 6) (hn : Dp K H num (polyD q)) (cq : SF.Canon q) (nq : SF.nrm q ≤ 4194304)
    (hf : H fa = some (.lst (found.map V.int))) (fl : found.length = h.length)
    (n1 : (∀ u ∈ g, SF.doneV es k u) → ∀ H' num' found' o7', Same (hide H fa) H' → H' fa = some (.lst (found'.map V.int)) → found'.length = h.length → (∀ v, v < h.length → SF.pat found' v = if v ∈ g then -1 else SF.pat found v) →
      Dp K H' num' (polyD (SF.times q (SF.cf [((0, 0), 1), (((g.map (SF.fld h)).sum, (g.length : Int)), 1)]))) → D.nx [some sv, some sums, some pv, some num', some (.int ((k : Int) - 1)), some fv, s6, o7', o8, some (.ref fa), some (.ref l), o11] H')
    (n2 : ¬ (∀ u ∈ g, SF.doneV es k u) → ∀ H', Same H H' → D.nx [some sv, some sums, some pv, some num, some (.int ((k : Int) - 1)), some fv, s6, o7, o8, some (.ref fa), some (.ref l), o11] H') :
    t_mark K CF D [some sv, some sums, some pv, some num, some (.int ((k : Int) - 1)), some fv, s6, o7, o8, some (.ref fa), some (.ref l), o11] H := by
  have dl : ∀ {H'}, Same H H' → Dp K H' (.ref l) (.list (g.map natD)) := fun e => .lst (.inl (.inl (e _ _ hl))) (by
    have := natsAll (K := K) (H := by assumption) g
    exact this)
  have done : ∀ u, SF.lastF es u ≤ (k : Int) - 1 ↔ SF.doneV es k u := fun u => by
    rw [← SF.last_done u es k kl]; omega
  refine s_when (evb_B ((evv_all (bs := g.map fun u => decide (SF.lastF es u ≤ (k : Int) - 1)) ?_))) (fun hb H1 e1 => ?_) (fun hb H1 e1 => n2 (fun z => ?_) H1 e1)
  · rw [List.map_map]
    refine evd_lcA (src_list (evd_var rfl (dl (Same.refl _)))).map (by rw [sizeLine_eq]; omega) _ (fun _ => rfl) fun u x H' hu e yd R kk => ?_
    cases dp_int yd
    refine kk _ (wipe_set1 _ _ _) (evd_bl (evv_le (evd_v (K := K) (evd_ixL (ds := ((List.range h.length).map (SF.lastF es)).map PyData.int) (i := u) (evp_fld (evp_var rfl fun H2 e2 => ?_)) (evv_var rfl) (ints_at ?_))) (evv_var rfl)))
    · obtain ⟨a, dx, ev, lv, rfl, h1, h2, h3⟩ := G.same (e.trans e2)
      exact ⟨a, CG, dx, _, lv, rfl, h1, TG.cl, TG.nl, gat_l _ _ _, h3⟩
    · rw [List.getElem?_map, List.getElem?_range (gl u hu)]; rfl
  · have hd : ∀ u ∈ g, SF.doneV es k u := fun u hu => by
      rw [List.all_map, List.all_eq_true] at hb
      have := hb u hu
      exact (done u).mp (by simpa using this)
    refine q_set (evd_call (K := K) (ds := [polyD q, polyD (SF.cf [((0, 0), 1), (((g.map (SF.fld h)).sum, (g.length : Int)), 1)])]) (ead_cons (evd_var rfl (dp_same e1 hn)) (ead_cons (evp_meth rfl (fun H' e => ?_) (eav_cons (evv_var rfl) eav_nil) fun H2 e2 Q qq => ⟨fv, .ref l, h, g, rfl, F.same (e1.trans e2), dl (e1.trans e2), gl, g6, fun u H' e hd => qq u H' e hd⟩) ead_nil)) (domTimes_of cq nq ?_)) fun num' H2 e2 hn' => ?_
    · obtain ⟨a, dx, fv', rfl, h1, h2⟩ := F.same (e1.trans e)
      exact ⟨a, dx, _, rfl, h1, fac_of fv'⟩
    · exact Nat.le_trans (SF.cf_canon _).len (SF.bi_nrm _ _ 1 1)
    · have e12 := e1.trans e2
      have hl2 : hide H2 fa l = some (.lst (natV g)) := by rw [hide_ne lf]; exact e12 _ _ hl
      have h0 : hide H fa fa = none := hide_self
      refine s_for (Hb := hide H2 fa) (l := g) (fun R r => ⟨_, rfl, l, rfl, ⟨_, .inl (.inl (e12 _ _ hl))⟩, r⟩) (walkL_list (K := K) (.inl (.inl hl2)) (natsAll g)).map
        (fun j σ' H' => ∃ y7 found', σ' = [some sv, some sums, some pv, some num', some (.int ((k : Int) - 1)), some fv, s6, y7, o8, some (.ref fa), some (.ref l), o11] ∧ Same (hide H2 fa) H' ∧ H' fa = some (.lst (found'.map V.int)) ∧ found'.length = h.length ∧ ∀ v, v < h.length → SF.pat found' v = if v ∈ g.take j then -1 else SF.pat found v)
        ⟨o7, found, rfl, hide_same, e12 _ _ hf, fl, fun v _ => by simp⟩ (fun j σ' H' ⟨_, _, _, sm, _⟩ => sm) (fun j u x σ' H' H'' hu pv' e yd => ?_) (fun σ' H' pv' => ?_)
      · obtain ⟨y7, found', rfl, sm, hf', fl', pf⟩ := pv'
        cases dp_int yd
        have um := List.mem_of_getElem? hu
        have ul : u < found'.length := by rw [fl']; exact gl u um
        refine ⟨1, rfl, _, rfl, _, rfl, fa, _, _, u, rfl, rfl, e _ _ hf', ixN_nat (by rw [List.length_map]; exact ul), ?_⟩
        refine ⟨_, found'.set u (-1), rfl, (hide_of (sm.trans e) hide_self).trans hide_upd, by rw [upd_same, List.map_set], by rw [List.length_set]; exact fl', fun v hv => ?_⟩
        rw [SF.pat_set ul, take_next hu, pf v hv]
        by_cases z : u = v
        · subst z; rw [if_pos rfl, if_pos (by simp)]
        · rw [if_neg z]
          have : (v ∈ g.take j ++ [u]) ↔ v ∈ g.take j := by simp [Ne.symm z]
          simp only [this]
      · obtain ⟨y7, found', rfl, sm, hf', fl', pf⟩ := pv'
        rw [List.take_length] at pf
        refine n1 hd H' num' found' y7 ((hide_of (hide_same.trans e12) hide_self).trans sm) hf' fl' pf ?_
        have hD := hide_same (H := H2) (a := fa)
        have sT : SameT H2 H' := fun b xs r => by
          have hb : b ≠ fa := fun z => by
            subst z
            rcases r with r | ⟨o, r⟩ <;> rw [e12 _ _ hf] at r <;> cases r
          rcases r with r | ⟨o, r⟩
          · exact .inl (sm _ _ (by rw [hide_ne hb]; exact r))
          · exact .inr ⟨o, sm _ _ (by rw [hide_ne hb]; exact r)⟩
        exact dp_sameT sT (noL_poly _) hn'
  · have : (g.map fun u => decide (SF.lastF es u ≤ (k : Int) - 1)).all id = true := by
      rw [List.all_map, List.all_eq_true]
      intro u hu
      have := (done u).mpr (z u hu)
      simpa using this
    rw [this] at hb; cases hb
def t_put (K : PySem.W.Frag) (CF : Addr) : TS :=
  tSeq (tAsg tDNewK (gName 6))
  (tSeq (tFor (iEnumT K (tCons (tVar 2) tNil)) (gTup K 2 (gCons (gName 7) (gCons (gName 8) gNil))) (t_group K))
  (tSeq (tAsg (tCB (rListOf K) (tCons (tVar 2) tNil)) (gName 9))
  (tSeq (tLock (tFor (iVals (tVar 6)) (gName 10) (t_mark K CF)))
  (tSeq (tAsg (tCB (rTupOf K) (tCons (tVar 9) tNil)) (gName 11))
    (sDPut (tVar 1) (tVar 11) (tCall (spD K domPlus) [] E0 (tCons (tDGet2 (tVar 1) (tVar 11) (tTup tNil)) (tCons (tVar 3) tNil))))))))
def spPut (K : PySem.W.Frag) (CG CF : Addr) : Sp := fun vs H Q _ => ∃ (gv : V) (sa : Addr) (pv num fv : V) (h : List Int) (es : List SF.Edge) (k : Nat) (parts : List Int) (p : Poly) (kvs : List (List L2.Key × V)) (t : List (List Int × Poly)), vs = [gv, .ref sa, pv, num, .int ((k : Int) - 1), fv] ∧
  GatAt K CG H gv h.length es ∧ FacAt K CF H fv h ∧ SF.Wf h es ∧ k ≤ es.length ∧ Dp K H pv (.tuple (parts.map PyData.int)) ∧ parts.length = h.length ∧ (∀ v, v < h.length → -1 ≤ SF.pat parts v) ∧ (∀ v, v < h.length → SF.pat parts v = -1 → SF.doneV es k v) ∧
  Dp K H num (polyD p) ∧ SF.Canon p ∧ SF.wC h.length parts * SF.nrm p ≤ 4194304 ∧ H sa = some (.dT kvs) ∧ TabG kT K H kvs t ∧ (t.map (·.1)).Nodup ∧ (∀ x ∈ t, SF.Canon x.2) ∧ SF.tsz t (SF.wC h.length) ≤ 4194304 ∧ t.length < 100000 ∧
  ∀ H' kvs' found q, SF.Put h es k parts p found q → Same (hide H sa) H' → H' sa = some (.dT kvs') → TabG kT K H' kvs' (SF.tadd t found q) → Q .non H'
theorem gput_len {c : Int} {i : Nat} : ∀ gs : List (Int × List Nat), (SF.gput gs c i).length ≤ gs.length + 1
  | [] => Nat.le_refl _
  | g :: r => by
    unfold SF.gput
    split
    · simp
    · have := gput_len (c := c) (i := i) r
      simp; omega
theorem members_len (i : Nat) (parts : List Int) (c : Int) : (SF.members i parts c).length ≤ i := by
  unfold SF.members
  exact Nat.le_trans (List.length_filter_le _ _) (by simp)
theorem pure_put {CG CF : Addr} (TG : GatTxt K CG) (vs : List V) (H : Hp) (Q : VK) (E : XK) (hsp : spPut K CG CF vs H Q E) : t_put K CF (DQ Q) (start nPut vs) H := by
  obtain ⟨gv, sa, pv, num, fv, h, es, k, parts, p, kvs, t, rfl, G, F, wf, kl, hpv, pl, lo, dn, hnum, cp, np, hsa, tb, nd, can, sz, tl, kk⟩ := hsp
  have n6 := wf.hi
  refine q_set (P := fun u H' => ∃ q, u = .ref q ∧ H q = none ∧ H' q = some (.dK [])) (fun H1 e1 Q q z nz => q _ _ (same_new nz) ⟨z, rfl, e1.free nz, upd_same⟩) fun u H1 e1 p1 => ?_
  obtain ⟨ga, rfl, nga, hga⟩ := p1
  obtain ⟨pa, pxs, rfl, hp1, hp2⟩ := dp_tup hpv
  have epx := dpa_ints hp2
  subst epx
  refine ⟨_, rfl, pa, _, rfl, sqt_same e1 hp1, for_it (walk_enumT (K := K) (a := pa) (xs := parts.map V.int)) (fun i σ' H' => ∃ gs ls y7 y8, σ' = [some gv, some (.ref sa), some (.ref pa), some num, some (.int ((k : Int) - 1)), some fv, some (.ref ga), y7, y8, none, none, none] ∧ Same H H' ∧ SF.Grp i parts gs ∧ GrpAt H H' ga gs ls ∧ gs.length ≤ i)
    ⟨[], [], none, none, rfl, e1, SF.Grp.start parts, ⟨hga, rfl, List.nodup_nil, ⟨nga, fun l hl => nomatch hl⟩, fun j l g h1 => by simp at h1⟩, Nat.le_refl _⟩ (fun i σ' H' _ ⟨_, _, _, _, _, sm, _⟩ => sqt_same sm hp1) (fun i x σ' H' H'' hi pv' y => ?_) (fun σ' H' pv' => ?_)⟩
  · obtain ⟨gs, ls, y7, y8, rfl, sm, Gr, GA, gl⟩ := pv'
    obtain ⟨T', a, b, rfl, nT, rfl, ha, hb⟩ := y
    cases ha
    have hi' : i < h.length := by rw [List.length_map, pl] at hi; exact hi
    have hip : i < parts.length := by rw [pl]; exact hi'
    have eb : b = .int (SF.pat parts i) := by
      dsimp only at hb
      rw [List.getElem?_map, SF.pat_get hip] at hb
      exact (Option.some.inj hb).symm
    subst eb
    have eT : Same H' (upd H' T' (.tup [.int (i : Int), .int (SF.pat parts i)])) := same_new nT
    refine ⟨T', _, rfl, .inl (.inl upd_same), rfl, _, _, rfl, _, _, rfl, rfl, ?_⟩
    refine group_step (i := i) (c := SF.pat parts i) rfl rfl rfl (sm.trans eT) ⟨eT _ _ GA.at_, GA.len, GA.nd, GA.new, fun j l g h1 h2 => eT _ _ (GA.lst j l g h1 h2)⟩ (by omega) (fun g hg => ?_) (fun hc H3 ls' s3 G3 => ?_) (fun hc H3 s3 G3 => ?_)
    · rw [(Gr.are g hg).2.1]
      have := members_len i parts g.1
      omega
    · exact ⟨_, ls', _, _, rfl, s3, Gr.step hc, G3, Nat.le_trans (gput_len _) (by omega)⟩
    · exact ⟨gs, ls, _, _, rfl, s3, Gr.skip hc, G3, by omega⟩
  · obtain ⟨gs, ls, y7, y8, rfl, sm, Gr, GA, gl⟩ := pv'
    rw [List.length_map, pl] at Gr gl
    refine q_set (evp_listT (K := K) (ds := parts.map PyData.int) (evd_var rfl (dp_same sm hpv))) fun u H3 e3 p3 => ?_
    obtain ⟨fa, fxs, rfl, nfa, hfa, hfx⟩ := p3
    rw [dpa_ints hfx] at hfa
    have s3 := sm.trans e3
    have hga3 := e3 _ _ GA.at_
    have fga : ga ≠ fa := ne_of_none GA.at_ nfa
    refine ⟨ga, _, hga3, True.intro, fun od => ⟨_, rfl, ga, od, _, rfl, upd_same, ?_⟩⟩
    have sL : Same H (upd H3 ga (.frz od (.dK (kvsOf gs ls)))) := same_mut s3 GA.new.1
    have hgaL : upd H3 ga (.frz od (.dK (kvsOf gs ls))) ga = some (.frz od (.dK (kvsOf gs ls))) := upd_same
    have ofL : ∀ b o, b ≠ ga → H3 b = some o → upd H3 ga (.frz od (.dK (kvsOf gs ls))) b = some o := fun b o hb e => by rw [upd_ne hb]; exact e
    generalize hHL : upd H3 ga (.frz od (.dK (kvsOf gs ls))) = HL at sL hgaL ofL ⊢
    have nfa0 : H fa = none := sm.free nfa
    have sW : Same H (hide HL fa) := hide_of sL nfa0
    have hgaW : hide HL fa ga = some (.frz od (.dK (kvsOf gs ls))) := by rw [hide_ne fga]; exact hgaL
    refine for_run (walkL_values hgaW) (fun i σ' H' => ∃ num' found q o7 o10, σ' = [some gv, some (.ref sa), some (.ref pa), some num', some (.int ((k : Int) - 1)), some fv, some (.ref ga), o7, y8, some (.ref fa), o10, none] ∧ Same (hide HL fa) H' ∧ H' fa = some (.lst (found.map V.int)) ∧ Dp K H' num' (polyD q) ∧ SF.PutI h es k parts p (gs.take i) found q)
      ⟨num, parts, p, y7, none, rfl, hide_same, ofL _ _ fga.symm hfa, dp_same sL hnum, SF.PutI.start pl cp⟩ (fun i σ' H' ⟨_, _, _, _, _, _, sm, _⟩ => sm) (fun i kv x σ' H' H'' hkv pv' e yd => ?_) (fun σ' H' pv' => ?_)
    · obtain ⟨num', found, q, o7, o10, rfl, sm', hf', hn', PI⟩ := pv'
      subst yd
      have hkv' := hkv
      rw [List.getElem?_map] at hkv'
      cases hz : (gs.zip ls)[i]? with
      | none => rw [hz] at hkv'; cases hkv'
      | some z =>
        rw [hz] at hkv'
        cases hkv'
        obtain ⟨g, l⟩ := z
        obtain ⟨hg, hl⟩ := (List.getElem?_zip_eq_some).mp hz
        have gm : g ∈ gs := List.mem_of_getElem? hg
        have lm : l ∈ ls := List.mem_of_getElem? hl
        have are := Gr.are g gm
        have lga := (GA.new.2 l lm).2
        have hl1 := GA.lst i l g hl hg
        have lfa : l ≠ fa := ne_of_none hl1 nfa
        have hlW : hide HL fa l = some (.lst (natV g.2)) := by rw [hide_ne lfa]; exact ofL _ _ lga (e3 _ _ hl1)
        have sm2 := sm'.trans e
        have w1 := SF.wC_pos h.length found
        have nq : SF.nrm q ≤ 4194304 := by
          have := PI.sz
          have h2 : 1 * SF.nrm q ≤ SF.wC h.length found * SF.nrm q := Nat.mul_le_mul_right _ w1
          omega
        have gmem : ∀ u ∈ g.2, u < h.length := fun u hu => by rw [are.2.1] at hu; exact (SF.mem_members.mp hu).1
        have gnd : g.1 ∉ (gs.take i).map (·.1) := fun z => by
          have tk : gs.take (i + 1) = gs.take i ++ [g] := take_next hg
          have := Gr.nd.sublist ((List.take_sublist (i + 1) gs).map (·.1))
          rw [tk, List.map_append, List.nodup_append] at this
          exact this.2.2 _ z _ (by simp) rfl
        refine mark_step (k := k) (g := g.2) (q := q) (found := found) TG (G.same (sW.trans sm2)) (F.same (sW.trans sm2)) wf kl (sm2 _ _ hlW) lfa gmem (by rw [are.2.1]; exact Nat.le_trans (members_len _ _ _) n6) (dp_same e hn') PI.can nq (e _ _ hf') PI.len (fun hd H4 num4 found4 o4 s4 f4 l4 p4 n4 => ?_) (fun hd H4 s4 => ?_)
        · refine ⟨num4, found4, _, o4, _, rfl, (hide_of sm2 hide_self).trans s4, f4, n4, ?_⟩
          rw [take_next hg]
          exact SF.PutI.mark wf PI are.1 are.2.1 are.2.2 gnd hd l4 p4
        · refine ⟨num', found, q, _, _, rfl, sm2.trans s4, (e.trans s4) _ _ hf', dp_same (e.trans s4) hn', ?_⟩
          rw [take_next hg]
          exact PI.skip hd
    · obtain ⟨num', found, q, o7, o10, rfl, sm', hf', hn', PI⟩ := pv'
      have ekl : (kvsOf gs ls).length = gs.length := by rw [List.length_map, List.length_zip, GA.len, Nat.min_self]
      rw [ekl, List.take_length] at PI
      have hgaE := sm' _ _ hgaW
      refine ⟨hgaE, ?_⟩
      have uD : SameD H' (upd H' ga (.dK (kvsOf gs ls))) := unlock_D hgaE rfl
      have sE : Same H (upd H' ga (.dK (kvsOf gs ls))) := same_mut (sW.trans sm') nga
      have hfE : upd H' ga (.dK (kvsOf gs ls)) fa = some (.lst (found.map V.int)) := by rw [upd_ne fga.symm]; exact hf'
      have P' := SF.PutI.end_ Gr PI lo dn
      refine q_set (evp_tupleN (K := K) (ds := found.map PyData.int) (evd_var rfl (ints_list hfE))) fun u H5 e5 p5 => ?_
      obtain ⟨ka, kxs, rfl, hka, hkx⟩ := p5
      rw [dpa_ints hkx] at hka
      have s5 := sE.trans e5
      refine s_taddT (key := found) (q := q) rfl (s5 _ _ hsa) (tb.up (.of s5)) nd (by rw [Paired.length tb, sizeLine_eq]; omega) rfl hka (evd_var rfl (dp_same e5 (dp_sameD uD hn'))) ?_ fun H6 kvs6 e6 tb6 => ?_
      · have h1 := (tget_can can found).len
        have h2 := SF.tget_sz (SF.wC h.length) found (SF.wC_pos _ _) t
        have h3 := PI.can.len
        have w1 := SF.wC_pos h.length found
        have h4 : 1 * SF.nrm q ≤ SF.wC h.length found * SF.nrm q := Nat.mul_le_mul_right _ w1
        have := PI.sz
        rw [sizeLine_eq]; omega
      · refine kk _ kvs6 found q P' (fun b o hb => ?_) upd_same tb6
        have hne : b ≠ sa := fun z => by rw [z, hide_self] at hb; cases hb
        rw [upd_ne hne]
        rw [hide_ne hne] at hb
        exact e6 _ _ (s5 _ _ hb)
end
end SFW

set_option maxRecDepth 100000
set_option maxHeartbeats 4000000
/-! # Clusters: _put as a def, total -/
namespace SFW
open PySem PySem.Spec PyProof.Rows L2
open SF (Poly)
abbrev nTotal : List Str := ["self", "kept", "left_out", "factors", "sums", "at", "u", "v", "later", "parts", "number"]
theorem scTotal : FnScope nTotal ["self", "kept", "left_out", "factors"] (defScope sTotal) := ⟨rfl, rfl, rfl, by decide +kernel, rfl, by decide +kernel, by decide +kernel⟩
section
variable {P : Program} {w : World} {K : PySem.W.Frag} {mg : Str → Option Value} {base : Heap} {C CF CG : Addr}
theorem ok_put {f fL fT fO : Addr} {fd fdL fdT fdO : FuncData} (F : Fun K "_put" "Gatherer._put" sPut f fd) (TG : GatTxt K CG) (TF : FacTxt K CF) (me : mg "enumerate" = none) (ml : mg "list" = none) (ma : mg "all" = none) (mt : mg "tuple" = none)
    (GL : FnOk P w K mg base CX0 3 fL fdL ["p", "q"] (spD K domPlus)) (gL : mg "plus" = some (.ref fL)) (kL : PySem.W.keepIn K (.ref fL) = true) (bL : Binds K fdL ["p", "q"] [])
    (GT : FnOk P w K mg base CX0 2 fT fdT ["p", "q"] (spD K domTimes)) (gT : mg "times" = some (.ref fT)) (kT : PySem.W.keepIn K (.ref fT) = true) (bT : Binds K fdT ["p", "q"] [])
    (GO : FnOk P w K mg base CX0 3 fO fdO ["self", "vertices"] (spOf K CF)) (mO : Meth K CF "of" fO) (bO : Binds K fdO ["self", "vertices"] []) :
    FnOk P w K mg base CX0 4 f fd ["self", "sums", "parts", "number", "at", "factors"] (spPut K CG CF) := by
  refine F.ok scPut (fun vs H Q E h => ?_) (fun cdv A outer s H vs Q E hr h => ⟨t_put K CF, ?_, pure_put TG vs H Q E h⟩)
  · obtain ⟨gv, sa, pv, num, fv, h, es, k, parts, p, kvs, t, rfl, _⟩ := h; rfl
  · have hu := hu_of hr
    have hr2 : Room 2 _ := hr.mono (by decide)
    exact pss_cons (ps_set (i := 6) scPut.nd rfl (.inl rfl) pe_dnewK)
      (pss_cons (ps_for PassesOwn.never rfl (by exact (pi_enumT (by rfl) me (pa_cons (pv 2) pa_nil))) (by exact (pg_tup rfl (pgs_cons (pg_name (i := 7) scPut.nd rfl (.inl rfl)) (pgs_cons (pg_name (i := 8) scPut.nd rfl (.inl rfl)) pgs_nil))))
        (pss_one (ps_if (pt_cmpR op_ge (pv 8) pe_int (nomark _)) (pss_one (ps_expr (by exact (pe_bm PySem.F.plainAttrs_list PySem.F.slot_list_append PySem.F.type_list_append mt_append (pe_dsetd (pv 6) (pv 8) (pe_lst pa_nil) ⟨rfl, rfl, rfl, rfl⟩) (pa_cons (pv 7) pa_nil))))) pss_nil)))
      (pss_cons (ps_set (i := 9) scPut.nd rfl (.inl rfl) (by exact (pe_callTy call_list_of (by rfl) ml b_list (pa_cons (pv 2) pa_nil))))
      (pss_cons (ps_lock (ps_for PassesOwn.never rfl (by exact (pi_values (pv 6))) (pg_name (i := 10) scPut.nd rfl (.inl rfl))
        (pss_one (ps_if (pt_val (by exact (pe_callB (cr_all rfl) (by rfl) ma b_all (pa_cons (pe_lc (own := [("vertex", 7)]) (g := gName 7) (tt := tYes) (te := tOp (rI0 fun i j => .bl (decide (i ≤ j))) (tOp (rIxL K) (tFld K (tVar 0) "_last") (tVar 7)) (tVar 4)) rfl scPut.nd (pi_list (pv 10)) (blkOk_by (N := nPut) (sc := defScope sPut) (by decide +kernel))
            (fun _ _ _ _ _ => pg_name (i := 7) scPut.nd rfl (.inl rfl)) (fun _ _ _ _ _ => pts_nil) (fun _ _ _ _ _ => pe_cmpR op_le (pe_ix ix_list (pe_fld (pv 0) rfl) (pv 7) (fun _ _ => rfl)) (pv 4) (nomark _))) pa_nil))))
          (pss_cons (ps_set (i := 3) scPut.nd rfl (.inl rfl) (by exact (pe_call GT hr2 rfl gT kT bT .nil pass0 (pa_cons (pv 3) (pa_cons (pe_meth (pv 5) TF.cl mO GO hr bO .nil pass0 (pa_cons (pv 10) pa_nil)) pa_nil)))))
            (pss_one (ps_for PassesOwn.never rfl (pi_list (pv 10)) (pg_name (i := 7) scPut.nd rfl (.inl rfl)) (pss_one (ps_asg (pe_un un_neg pe_int) (by exact (pg_sub (pv 9) (pv 7) set_list))))))) pss_nil))))
      (pss_cons (ps_set (i := 11) scPut.nd rfl (.inl rfl) (by exact (pe_callTy call_tuple_of (by rfl) mt b_tuple (pa_cons (pv 9) pa_nil))))
      (pss_one (ps_dput hu (pv 1) (pv 11) (by exact (pe_call GL hr rfl gL kL bL .nil pass0 (pa_cons (pe_dget2 hu (pv 1) (pv 11) (pe_tup pa_nil) ⟨rfl, rfl, rfl, rfl⟩) (pa_cons (pv 3) pa_nil)))) rfl))))))
abbrev putArgs (L : Nat) (t1 t2 t3 : TE) : TA := tCons (tVar L) (tCons t1 (tCons t2 (tCons t3 (tCons (tVar 3) tNil))))
abbrev tPutC (K : PySem.W.Frag) (CG CF : Addr) (L : Nat) (t1 t2 t3 : TE) : TS := tDrop (tMeth CG "_put" (spPut K CG CF) [] E0 (tVar 0) (putArgs L t1 t2 t3))
theorem pc_ne : ¬ (("_put" : Str) = "_count") := by decide +kernel
theorem pe_ne : ¬ (("_put" : Str) = "_edges") := by decide +kernel
theorem pl_ne : ¬ (("_put" : Str) = "_last") := by decide +kernel
theorem gat_put (n : Int) (ev lv : V) : (gatF n ev lv).lookup ("_put" : Str) = none := by
  have h1 : (("_put" : Str) == "_count") = false := beq_eq_false_iff_ne.mpr pc_ne
  have h2 : (("_put" : Str) == "_edges") = false := beq_eq_false_iff_ne.mpr pe_ne
  have h3 : (("_put" : Str) == "_last") = false := beq_eq_false_iff_ne.mpr pl_ne
  simp [gatF, List.lookup, h1, h2, h3]
/-- self._put(later, parts, number, at, factors) -/
theorem s_put {D : Ends} {H : Hp} {σ : L2.St} {gv fv : V} {L : Nat} {la : Addr} {t1 t2 t3 : TE} {h : List Int} {es : List SF.Edge} {k : Nat} {parts : List Int} {p : Poly} {kvs : List (List L2.Key × V)} {t : List (List Int × Poly)}
    (h0 : σ[0]? = some (some gv)) (hL : σ[L]? = some (some (.ref la))) (h3 : σ[3]? = some (some fv)) (G : GatAt K CG H gv h.length es) (F : FacAt K CF H fv h) (wf : SF.Wf h es) (kl : k ≤ es.length)
    (e1 : EvD K t1 σ H (.tuple (parts.map PyData.int))) (e2 : EvD K t2 σ H (polyD p)) (e3 : EvV t3 σ H (.int ((k : Int) - 1))) (pl : parts.length = h.length) (lo : ∀ v, v < h.length → -1 ≤ SF.pat parts v) (dn : ∀ v, v < h.length → SF.pat parts v = -1 → SF.doneV es k v)
    (cp : SF.Canon p) (np : SF.wC h.length parts * SF.nrm p ≤ 4194304) (hla : H la = some (.dT kvs)) (tb : TabG kT K H kvs t) (nd : (t.map (·.1)).Nodup) (can : ∀ x ∈ t, SF.Canon x.2) (sz : SF.tsz t (SF.wC h.length) ≤ 4194304) (tl : t.length < 100000)
    (nx : ∀ H' kvs' found q, SF.Put h es k parts p found q → Same (hide H la) H' → H' la = some (.dT kvs') → TabG kT K H' kvs' (SF.tadd t found q) → D.nx σ H') : tPutC K CG CF L t1 t2 t3 D σ H := by
  obtain ⟨ga, dx, ev, lv, rfl, hg, _, _⟩ := id G
  refine ⟨_, h0, ga, dx, _, rfl, hg, gat_put _ _ _, ?_⟩
  refine ⟨_, hL, e1.go fun pv H1 s1 hp => (e2.up s1).go fun num H2 s2 hn => (e3.up (s1.trans s2)).go fun av H3 s3 ha => ⟨_, h3, ?_⟩⟩
  subst ha
  have s13 := (s1.trans s2).trans s3
  refine ⟨.ref ga, la, pv, num, fv, h, es, k, parts, p, kvs, t, rfl, G.same s13, F.same s13, wf, kl, dp_same (s2.trans s3) hp, pl, lo, dn, dp_same s3 hn, cp, np, s13 _ _ hla, tb.up (.of s13), nd, can, sz, tl, fun H' kvs' found q PU sh hl tb' => ?_⟩
  refine nx H' kvs' found q PU (fun b o hb => ?_) hl tb'
  have hne : b ≠ la := fun z => by rw [z, hide_self] at hb; cases hb
  rw [hide_ne hne] at hb
  exact sh _ _ (by rw [hide_ne hne]; exact s13 _ _ hb)
def t_row (K : PySem.W.Frag) (CG CF : Addr) : TS :=
  tSeq (tPutC K CG CF 8 (tVar 9) (tCall (spD K domTimes) [] E0 (tCons (tVar 10) (tCons (tOp (rIxL K) (tVar 2) (tVar 5)) tNil))) (tVar 5))
    (tPutC K CG CF 8 (tCall (spD K domJoined) [] E0 (tCons (tVar 9) (tCons (tVar 6) (tCons (tVar 7) tNil)))) (tCall (spD K domTimes) [] E0 (tCons (tVar 10) (tCons (tOp (rIxL K) (tVar 1) (tVar 5)) tNil))) (tVar 5))
def t_edge (K : PySem.W.Frag) (CG CF : Addr) : TS :=
  tSeq (tAsg tDNewT (gName 8)) (tSeq (tLock (tFor (iItemsT (tVar 4)) (gTup K 2 (gCons (gName 9) (gCons (gName 10) gNil))) (t_row K CG CF))) (tAsg (tVar 8) (gName 4)))
def t_total (K : PySem.W.Frag) (CG CF : Addr) (one : V) : TS :=
  tSeq (tAsg tDNewT (gName 4))
  (tSeq (tPutC K CG CF 4 (tTupRg (tRg1 (tFld K (tVar 0) "_count"))) (tC one) (tUn (rU fun i => .int (-i)) (tC (.int 1))))
  (tSeq (tFor (iEnum K (tCons (tFld K (tVar 0) "_edges") tNil)) (gTup K 2 (gCons (gName 5) (gCons (gTup K 2 (gCons (gName 6) (gCons (gName 7) gNil))) gNil))) (t_edge K CG CF))
    (tRet (tDGet2 (tVar 4) (tOp (rRepT1 K) (tTup (tCons (tUn (rU fun i => .int (-i)) (tC (.int 1))) tNil)) (tFld K (tVar 0) "_count")) (tTup tNil)))))
theorem done_succ {es : List SF.Edge} {i v : Nat} (h : SF.doneV es i v) : SF.doneV es (i + 1) v := fun e he => h e (by
  have : es.drop (i + 1) = (es.drop i).drop 1 := by rw [List.drop_drop]
  rw [this] at he
  exact List.mem_of_mem_drop he)
abbrev joinL (parts : List Int) (u v : Nat) : List Int := parts.map fun p => if p = max (SF.pat parts u) (SF.pat parts v) then min (SF.pat parts u) (SF.pat parts v) else p
abbrev keptD (es : List SF.Edge) : PyData := .list (es.map fun e => polyD (SF.cf [((0, 0), 1), ((e.2.2, 0), -1)]))
abbrev leftD (es : List SF.Edge) : PyData := .list (es.map fun e => polyD [((e.2.2, 0), 1)])
theorem tadd_can {κ : Type} [DecidableEq κ] {t : List (κ × Poly)} {k : κ} {q : Poly} (h : ∀ x ∈ t, SF.Canon x.2) : ∀ x ∈ SF.tadd t k q, SF.Canon x.2 := fun x hx => by
  rcases SF.tadd_mem hx with ⟨_, c⟩ | c
  · exact c
  · exact h x c
/-- one entry of the table, at one edge -/
theorem row_step {D : Ends} {H : Hp} {gv kv lv fv s4 pv num : V} {la : Addr} {h : List Int} {es : List SF.Edge} {i u v : Nat} {j : Int} {parts : List Int} {p : Poly} {lkvs : List (List L2.Key × V)} {lt : List (List Int × Poly)}
    (G : GatAt K CG H gv h.length es) (F : FacAt K CF H fv h) (wf : SF.Wf h es) (he : es[i]? = some (u, v, j)) (hk : Dp K H kv (keptD es)) (hl : Dp K H lv (leftD es)) (hp : Dp K H pv (.tuple (parts.map PyData.int))) (hn : Dp K H num (polyD p)) (cp : SF.Canon p) (pl : parts.length = h.length)
    (lo : ∀ v, v < h.length → -1 ≤ SF.pat parts v) (dn : ∀ v, v < h.length → SF.pat parts v = -1 → SF.doneV es i v) (pu : 0 ≤ SF.pat parts u) (pw : 0 ≤ SF.pat parts v)
    (hla : H la = some (.dT lkvs)) (tb : TabG kT K H lkvs lt) (nd : (lt.map (·.1)).Nodup) (can : ∀ x ∈ lt, SF.Canon x.2) (sz : SF.tsz lt (SF.wC h.length) + 3 * (SF.wC h.length parts * SF.nrm p) ≤ 4194304) (tl : lt.length < 90000)
    (nx : ∀ H' lkvs' found1 q1 found2 q2, SF.Put h es (i + 1) parts (SF.times p [((j, 0), 1)]) found1 q1 → SF.Put h es (i + 1) (joinL parts u v) (SF.times p (SF.cf [((0, 0), 1), ((j, 0), -1)])) found2 q2 → Same (hide H la) H' → H' la = some (.dT lkvs') →
      TabG kT K H' lkvs' (SF.tadd (SF.tadd lt found1 q1) found2 q2) → D.nx [some gv, some kv, some lv, some fv, some s4, some (.int (i : Int)), some (.int (u : Int)), some (.int (v : Int)), some (.ref la), some pv, some num] H') :
    t_row K CG CF D [some gv, some kv, some lv, some fv, some s4, some (.int (i : Int)), some (.int (u : Int)), some (.int (v : Int)), some (.ref la), some pv, some num] H := by
  have em : (u, v, j) ∈ es := List.mem_of_getElem? he
  have elt := wf.lt _ em
  have hi : i < es.length := (List.getElem?_eq_some_iff.mp he).1
  have ul : u < h.length := by have := elt.1; have := elt.2; simp only at *; omega
  have vl : v < h.length := elt.2
  have n6 := wf.hi
  have w1 := SF.wC_pos h.length parts
  have np1 : SF.nrm p ≤ SF.wC h.length parts * SF.nrm p := by
    have := Nat.mul_le_mul_right (SF.nrm p) w1
    omega
  have e3 : ((i + 1 : Nat) : Int) - 1 = (i : Int) := by omega
  have mn := SF.mono_nrm p j 0
  have b1 : SF.wC h.length parts * SF.nrm (SF.times p [((j, 0), 1)]) ≤ SF.wC h.length parts * SF.nrm p := Nat.mul_le_mul_left _ mn
  have ixk : ∀ {H' : Hp} {n : Nat} {lv : V} {q : Poly} {ds : List PyData} {σ : L2.St}, σ[n]? = some (some lv) → σ[5]? = some (some (.int (i : Int))) → Dp K H' lv (.list ds) → ds[i]? = some (polyD q) → EvD K (tOp (rIxL K) (tVar n) (tVar 5)) σ H' (polyD q) := fun a b c d => evd_ixL (evd_var a c) (evv_var b) d
  refine s_put (D := { D with nx := tPutC K CG CF 8 _ _ _ D }) (k := i + 1) (parts := parts) (p := SF.times p [((j, 0), 1)]) rfl rfl rfl G F wf (by omega) (evd_var rfl hp) (evd_call (ds := [polyD p, polyD [((j, 0), 1)]]) (ead_cons (evd_var rfl hn) (ead_cons (ixk rfl rfl hl (by rw [List.getElem?_map, he]; rfl)) ead_nil)) (domTimes_of cp (by omega) (by show 1 ≤ 2; decide)))
    (by rw [e3]; exact evv_var rfl) pl lo (fun v hv e => done_succ (dn v hv e)) (SF.times_canon _ _) (by omega) hla tb nd can (by omega) (by omega) fun H1 lkvs1 found1 q1 P1 s1 h1 t1 => ?_
  have hD : SameD H H1 := (hide_D hla rfl).trans (.of s1)
  have G1 : GatAt K CG H1 gv h.length es := by
    obtain ⟨a, dx, ev, lv', rfl, g1, g2, g3⟩ := G
    exact ⟨a, dx, ev, lv', rfl, s1 _ _ (by rw [hide_ne (ne_of g1 hla (fun z => nomatch z))]; exact g1), dp_sameD hD g2, dp_sameD hD g3⟩
  have F1 : FacAt K CF H1 fv h := by
    obtain ⟨a, dx, fv', rfl, g1, g2⟩ := F
    exact ⟨a, dx, fv', rfl, s1 _ _ (by rw [hide_ne (ne_of g1 hla (fun z => nomatch z))]; exact g1), dp_sameD hD g2⟩
  have pj : ∀ w, w < h.length → SF.pat (joinL parts u v) w = if SF.pat parts w = max (SF.pat parts u) (SF.pat parts v) then min (SF.pat parts u) (SF.pat parts v) else SF.pat parts w := fun w hw => SF.pat_map (by rw [pl]; exact hw) _
  have nb : SF.nrm (SF.times p (SF.cf [((0, 0), 1), ((j, 0), -1)])) ≤ SF.nrm p * 2 := Nat.le_trans (SF.times_nrm _ _) (Nat.mul_le_mul_left _ (SF.bi_nrm _ _ 1 (-1)))
  have wj : SF.wC h.length (joinL parts u v) ≤ SF.wC h.length parts := SF.wC_join ul vl pu pw rfl rfl pj
  have b2 : SF.wC h.length (joinL parts u v) * SF.nrm (SF.times p (SF.cf [((0, 0), 1), ((j, 0), -1)])) ≤ 2 * (SF.wC h.length parts * SF.nrm p) := by
    refine Nat.le_trans (Nat.mul_le_mul wj nb) ?_
    rw [← Nat.mul_assoc, Nat.mul_comm _ 2]
    exact Nat.le_refl _
  have sz1 := SF.tsz_add (SF.wC h.length) found1 q1 lt
  have p1s := P1.sz
  refine s_put (k := i + 1) (parts := joinL parts u v) (p := SF.times p (SF.cf [((0, 0), 1), ((j, 0), -1)])) rfl rfl rfl G1 F1 wf (by omega)
    (evd_call (ds := [.tuple (parts.map PyData.int), natD u, natD v]) (ead_cons (evd_var rfl (dp_sameD hD hp)) (ead_cons (evd_var rfl (.int _)) (ead_cons (evd_var rfl (.int _)) ead_nil))) ⟨parts, u, v, by rw [pl]; exact ul, by rw [pl]; exact vl, by rw [sizeLine_eq]; omega, rfl, rfl⟩)
    (evd_call (ds := [polyD p, polyD (SF.cf [((0, 0), 1), ((j, 0), -1)])]) (ead_cons (evd_var rfl (dp_sameD hD hn)) (ead_cons (ixk rfl rfl (dp_sameD hD hk) (by rw [List.getElem?_map, he]; rfl)) ead_nil)) (domTimes_of cp (by omega) (Nat.le_trans (SF.cf_canon _).len (SF.bi_nrm _ _ 1 (-1)))))
    (by rw [e3]; exact evv_var rfl) (by rw [List.length_map]; exact pl) (fun w hw => ?_) (fun w hw e => ?_) (SF.times_canon _ _) (by omega) h1 t1 (SF.tput_nd nd) (tadd_can can) (by omega) (by have := tput_len found1 (SF.plus (SF.tget lt found1) q1) lt; show (SF.tput _ _ _).length < _; omega) fun H2 lkvs2 found2 q2 P2 s2 h2 t2 => ?_
  · rw [pj w hw]
    have := lo w hw
    split <;> omega
  · rw [pj w hw] at e
    split at e
    · omega
    · exact done_succ (dn w hw e)
  · exact nx H2 lkvs2 found1 q1 found2 q2 P1 P2 ((hide_of s1 hide_self).trans s2) h2 t2
theorem pow3 {i n : Nat} (hi : i < 10) (hn : n ≤ 6) : 3 * (3 ^ i * 2 ^ n) ≤ 4194304 := by
  have h1 : 3 ^ i ≤ 3 ^ 9 := Nat.pow_le_pow_right (by omega) (by omega)
  have h2 : 2 ^ n ≤ 2 ^ 6 := Nat.pow_le_pow_right (by omega) hn
  have := Nat.mul_le_mul h1 h2
  omega
/-- one edge -/
theorem edge_step {D : Ends} {H : Hp} {gv kv lv fv : V} {o8 o9 o10 : Option V} {sa : Addr} {h : List Int} {es : List SF.Edge} {i u v : Nat} {j : Int} {kvs : List (List L2.Key × V)} {t : List (List Int × Poly)}
    (G : GatAt K CG H gv h.length es) (F : FacAt K CF H fv h) (wf : SF.Wf h es) (he : es[i]? = some (u, v, j)) (hk : Dp K H kv (keptD es)) (hl : Dp K H lv (leftD es)) (hsa : H sa = some (.dT kvs)) (tb : TabG kT K H kvs t) (T : SF.CInv h es i t) (tl : t.length ≤ 512)
    (nx : ∀ (H' : Hp) (la : Addr) (lkvs : List (List L2.Key × V)) (lt : List (List Int × Poly)) (z8 z9 z10 : Option V), Same H H' → H' la = some (.dT lkvs) → H la = none → TabG kT K H' lkvs lt → SF.CInv h es (i + 1) lt → lt.length ≤ 2 * t.length →
      D.nx [some gv, some kv, some lv, some fv, some (.ref la), some (.int (i : Int)), some (.int (u : Int)), some (.int (v : Int)), z8, z9, z10] H') :
    t_edge K CG CF D [some gv, some kv, some lv, some fv, some (.ref sa), some (.int (i : Int)), some (.int (u : Int)), some (.int (v : Int)), o8, o9, o10] H := by
  have em : (u, v, j) ∈ es := List.mem_of_getElem? he
  have elt := wf.lt _ em
  have hi : i < es.length := (List.getElem?_eq_some_iff.mp he).1
  have e10 := wf.few
  have ul : u < h.length := by have := elt.1; have := elt.2; simp only at *; omega
  have vl : v < h.length := elt.2
  have ed : (u, v, j) ∈ es.drop i := by rw [List.drop_eq_getElem?_toList_append, he]; simp
  refine q_set (P := fun u H' => ∃ p, u = .ref p ∧ H p = none ∧ H' p = some (.dT [])) (fun H3 e3 Q q p np => q _ _ (same_new np) ⟨p, rfl, e3.free np, upd_same⟩) fun la0 H3 e3 p3 => ?_
  obtain ⟨la, rfl, nla, hla⟩ := p3
  have fsa : sa ≠ la := ne_of_none hsa nla
  have hsa3 := e3 _ _ hsa
  refine ⟨sa, _, hsa3, True.intro, fun od => ⟨_, rfl, sa, od, kvs, rfl, upd_same, ?_⟩⟩
  have nL : SameN H3 (upd H3 sa (.frz od (.dT kvs))) := .upd hsa3
  have hlaL : upd H3 sa (.frz od (.dT kvs)) la = some (.dT []) := by rw [upd_ne fsa.symm]; exact hla
  have hsaL : upd H3 sa (.frz od (.dT kvs)) sa = some (.frz od (.dT kvs)) := upd_same
  have ofL : ∀ b o, b ≠ sa → H3 b = some o → upd H3 sa (.frz od (.dT kvs)) b = some o := fun b o hb e => by rw [upd_ne hb]; exact e
  generalize hHL : upd H3 sa (.frz od (.dT kvs)) = HL at nL hlaL hsaL ofL ⊢
  have nW : SameN H3 (hide HL la) := nL.trans (.hide hlaL)
  have GW : GatAt K CG (hide HL la) gv h.length es := by
    obtain ⟨a, dx, ev, lv', rfl, g1, g2, g3⟩ := G.same e3
    exact ⟨a, dx, ev, lv', rfl, nW _ _ g1 (fun _ z => nomatch z), dp_sameD nW.D g2, dp_sameD nW.D g3⟩
  have FW : FacAt K CF (hide HL la) fv h := by
    obtain ⟨a, dx, fv', rfl, g1, g2⟩ := F.same e3
    exact ⟨a, dx, fv', rfl, nW _ _ g1 (fun _ z => nomatch z), dp_sameD nW.D g2⟩
  have kW := dp_sameD nW.D (dp_same e3 hk)
  have lW := dp_sameD nW.D (dp_same e3 hl)
  have tbW : TabG kT K (hide HL la) kvs t := tb.up ((SameD.of e3).trans nW.D)
  have hsaW : hide HL la sa = some (.frz od (.dT kvs)) := by rw [hide_ne fsa]; exact hsaL
  have tsz := T.sz
  have p3 := pow3 (i := i) (n := h.length) (by omega) wf.hi
  refine for_run (walkL_itemsT hsaW) (fun m σ' H' => ∃ lkvs lt z9 z10, σ' = [some gv, some kv, some lv, some fv, some (.ref sa), some (.int (i : Int)), some (.int (u : Int)), some (.int (v : Int)), some (.ref la), z9, z10] ∧ Same (hide HL la) H' ∧ H' la = some (.dT lkvs) ∧ TabG kT K H' lkvs lt ∧ SF.CPart h es i (t.take m) lt ∧ lt.length ≤ 2 * m)
    ⟨[], [], _, _, rfl, hide_same, hlaL, .nil, SF.CPart.start h es i, Nat.zero_le _⟩ (fun m σ' H' ⟨_, _, _, _, _, sm, _⟩ => sm) (fun m kv' x σ' H' H'' hkv pv' e yd => ?_) (fun σ' H' pv' => ?_)
  · obtain ⟨lkvs, lt, z9, z10, rfl, sm, hl2, tb2, CP, ll⟩ := pv'
    obtain ⟨T', q, rfl, hT', hq⟩ := yd
    obtain ⟨x, hx, hk1, hk2⟩ := paired_get tbW hkv
    have xm : x ∈ t := List.mem_of_getElem? hx
    have sW := sm.trans e
    have ml : m < t.length := (List.getElem?_eq_some_iff.mp hx).1
    have kx := T.key x xm
    have tk : t.take (m + 1) = t.take m ++ [x] := take_next hx
    have ts1 := SF.tsz_take (SF.wC h.length) t (m + 1)
    rw [tk, SF.tsz_snoc] at ts1
    have ts2 := CP.sz
    rw [hk1, kT_V] at hq
    have pu : 0 ≤ SF.pat x.1 u := by
      have h1 := kx.2.1 u ul
      have h2 : SF.pat x.1 u ≠ -1 := fun z => (kx.2.2.1 u ul z _ ed).1 rfl
      omega
    have pw : 0 ≤ SF.pat x.1 v := by
      have h1 := kx.2.1 v vl
      have h2 : SF.pat x.1 v ≠ -1 := fun z => (kx.2.2.1 v vl z _ ed).2 rfl
      omega
    refine ⟨T', _, rfl, .inl (.inl hT'), rfl, _, _, rfl, _, _, rfl, rfl, ?_⟩
    refine row_step (parts := x.1) (p := x.2) (lt := lt) (GW.same sW) (FW.same sW) wf he (dp_same sW kW) (dp_same sW lW) (.tup (.inl (.inl hq)) (ints_dpa _)) (dp_same sW hk2) (T.can x xm) kx.1 kx.2.1 kx.2.2.1 pu pw (e _ _ hl2) (tb2.up (.of e)) CP.nd CP.can (by omega) (by omega) fun H5 lkvs5 found1 q1 found2 q2 P1 P2 s5 h5 t5 => ?_
    refine ⟨lkvs5, _, _, _, rfl, (hide_of sW hide_self).trans s5, h5, t5, ?_, ?_⟩
    · rw [tk]
      exact SF.CPart.step CP he ul vl pu pw (fun w hw => SF.pat_map (by rw [kx.1]; exact hw) _) P1 P2
    · have a1 := tput_len found1 (SF.plus (SF.tget lt found1) q1) lt
      have a2 := tput_len found2 (SF.plus (SF.tget (SF.tadd lt found1 q1) found2) q2) (SF.tadd lt found1 q1)
      have a3 : (SF.tadd lt found1 q1).length ≤ lt.length + 1 := a1
      have a4 : (SF.tadd (SF.tadd lt found1 q1) found2 q2).length ≤ (SF.tadd lt found1 q1).length + 1 := a2
      omega
  · obtain ⟨lkvs, lt, z9, z10, rfl, sm, hl2, tb2, CP, ll⟩ := pv'
    rw [Paired.length tbW, List.take_length] at CP
    rw [Paired.length tbW] at ll
    have hsaE := sm _ _ hsaW
    refine ⟨hsaE, ?_⟩
    have uD : SameD H' (upd H' sa (.dT kvs)) := unlock_D hsaE rfl
    have laE : upd H' sa (.dT kvs) la = some (.dT lkvs) := by rw [upd_ne fsa.symm]; exact hl2
    refine ⟨_, rfl, ?_⟩
    refine nx (upd H' sa (.dT kvs)) la lkvs lt _ _ _ (fun b o hb => ?_) laE nla (tb2.up uD) (T.next CP) ll
    by_cases z : b = sa
    · subst z
      rw [hsa] at hb
      rw [upd_same]; exact hb
    · rw [upd_ne z]
      have hla' : b ≠ la := ne_of_none hb nla
      exact sm _ _ (by rw [hide_ne hla']; exact ofL b o z (e3 _ _ hb))
def spTotal (K : PySem.W.Frag) (CG CF : Addr) : Sp := fun vs H Q _ => ∃ (gv kv lv fv : V) (h : List Int) (es : List SF.Edge), vs = [gv, kv, lv, fv] ∧ GatAt K CG H gv h.length es ∧ FacAt K CF H fv h ∧ SF.Wf h es ∧ Dp K H kv (keptD es) ∧ Dp K H lv (leftD es) ∧ ∀ u H', Same H H' → Dp K H' u (polyD (SF.Z h es)) → Q u H'
theorem wC_le (n : Nat) (parts : List Int) : SF.wC n parts ≤ 2 ^ n := by
  unfold SF.wC
  exact Nat.le_trans (List.length_filter_le _ _) (Nat.le_of_eq (SF.states_len n))
theorem evv_count (TG : GatTxt K CG) {σ : L2.St} {H : Hp} {gv : V} {n : Nat} {es : List SF.Edge} (h0 : σ[0]? = some (some gv)) (G : GatAt K CG H gv n es) : EvV (tFld K (tVar 0) "_count") σ H (.int (n : Int)) :=
  evp_fld (evp_var h0 fun H2 e2 => by
    obtain ⟨a, dx, ev, lv, rfl, h1, h2, h3⟩ := G.same e2
    exact ⟨a, CG, dx, _, _, rfl, h1, TG.cl, TG.nc, gat_c _ _ _, rfl⟩)
theorem pure_total (TG : GatTxt K CG) {one : V} (hOne : ∀ H, Dp K H one (polyD [((0, 0), 1)])) (vs : List V) (H : Hp) (Q : VK) (E : XK) (hsp : spTotal K CG CF vs H Q E) : t_total K CG CF one (DQ Q) (start nTotal vs) H := by
  obtain ⟨gv, kv, lv, fv, h, es, rfl, G, F, wf, hk, hl, k⟩ := hsp
  have n6 := wf.hi
  have n1 := wf.lo
  refine q_set (P := fun u H' => ∃ p, u = .ref p ∧ H p = none ∧ H' p = some (.dT [])) (fun H3 e3 Q q p np => q _ _ (same_new np) ⟨p, rfl, e3.free np, upd_same⟩) fun u H1 e1 p1 => ?_
  obtain ⟨sa, rfl, nsa, hsa⟩ := p1
  have w2 := wC_le h.length (SF.rangeI h.length)
  have p2 : 2 ^ h.length ≤ 2 ^ 6 := Nat.pow_le_pow_right (by omega) n6
  refine s_put (D := { DQ Q with nx := tSeq _ _ (DQ Q) }) (k := 0) (parts := SF.rangeI h.length) (p := [((0, 0), 1)]) (t := []) rfl rfl rfl (G.same e1) (F.same e1) wf (Nat.zero_le _) (evd_rangeT (evv_count TG rfl (G.same e1)) (by omega)) (evd_c (hOne _)) ((evv_neg evv_c).vis (by congr 1)) (by simp [SF.rangeI])
    (fun v hv => by rw [SF.pat_range hv]; omega) (fun v hv e => by rw [SF.pat_range hv] at e; omega) SF.one_canon (by show SF.wC h.length (SF.rangeI h.length) * 1 ≤ _; omega) hsa .nil List.nodup_nil (fun x hx => nomatch hx) (Nat.zero_le _) (by show 0 < 100000; decide) fun H2 kvs2 found q PU s2 h2 t2 => ?_
  have C0 := SF.CInv.start PU
  have s02 : Same H H2 := fun b o hb => s2 _ _ (by rw [hide_ne (ne_of_none hb nsa)]; exact e1 _ _ hb)
  obtain ⟨ga, dx, ev, lv', rfl, hg1, hg2, hg3⟩ := id G
  obtain ⟨ea, exs, rfl, he1, he2⟩ := dp_lst hg2
  have el : exs.length = es.length := by rw [dpa_len he2, List.length_map]
  refine ⟨_, rfl, ga, CG, dx, _, _, rfl, s02 _ _ hg1, TG.cl, TG.ne, gat_e _ _ _, ea, exs, rfl, sql_same s02 he1, ?_⟩
  refine for_it (walk_enum (K := K) (a := ea) (xs := exs)) (fun i σ' H' => ∃ sa t kvs o5 o6 o7 o8 o9 o10, σ' = [some (.ref ga), some kv, some lv, some fv, some (.ref sa), o5, o6, o7, o8, o9, o10] ∧ Same H H' ∧ H' sa = some (.dT kvs) ∧ TabG kT K H' kvs t ∧ SF.CInv h es i t ∧ t.length ≤ 2 ^ i)
    ⟨sa, _, kvs2, _, _, _, _, _, _, rfl, s02, h2, t2, C0, Nat.le_refl _⟩ (fun i σ' H' _ ⟨_, _, _, _, _, _, _, _, _, _, sm, _⟩ => sql_same sm he1) (fun i x σ' H' H'' hi pv' y => ?_) (fun σ' H' pv' => ?_)
  · obtain ⟨sa, t, kvs, o5, o6, o7, o8, o9, o10, rfl, sm, hsa, tb, T, tl⟩ := pv'
    obtain ⟨T', a, b, rfl, nT, rfl, ha, hb⟩ := y
    cases ha
    obtain ⟨d, hd, pd⟩ := dpa_get he2 hb
    obtain ⟨e, he, rfl⟩ := map_at hd
    obtain ⟨u, v, j⟩ := e
    have eT : Same H' (upd H' T' (.tup [.int (i : Int), b])) := same_new nT
    obtain ⟨pe, rfl, hpe⟩ := dp_ex (dp_same (sm.trans eT) pd)
    have i10 : i < 10 := by have := wf.few; omega
    have p9 : 2 ^ i ≤ 2 ^ 9 := Nat.pow_le_pow_right (by omega) (by omega)
    refine ⟨T', _, rfl, .inl (.inl upd_same), rfl, _, _, rfl, _, _, rfl, ⟨pe, _, rfl, hpe, rfl, _, _, rfl, _, _, rfl, rfl, rfl, ?_⟩⟩
    have s3 := sm.trans eT
    refine edge_step (G.same s3) (F.same s3) wf he (dp_same s3 hk) (dp_same s3 hl) (eT _ _ hsa) (tb.up (.of eT)) T (by omega) fun H3 la lkvs lt z8 z9 z10 s4 h4 n4 t4 T4 l4 => ?_
    refine ⟨la, lt, lkvs, _, _, _, _, _, _, rfl, s3.trans s4, h4, t4, T4, ?_⟩
    rw [Nat.pow_succ]; omega
  · obtain ⟨sa, t, kvs, o5, o6, o7, o8, o9, o10, rfl, sm, hsa, tb, T, tl⟩ := pv'
    rw [el] at T
    have := T.end_
    subst this
    cases tb with
    | @cons kv' _ kvs' _ hkv tb' =>
      cases tb'
      obtain ⟨k0, val'⟩ := kv'
      obtain ⟨hk0, hval'⟩ := hkv
      have hk0 : k0 = kT (List.replicate h.length (-1)) := hk0
      subst hk0
      have hR : (List.replicate h.length (-1 : Int)).map V.int = List.replicate h.length (V.int (-1)) := by simp
      dsimp only
      refine s_end (Q := Q) (P := fun u H' => Dp K H' u (polyD (SF.Z h es))) (fun H1 e1' Q1 q1 => ?_) fun u H' e hd => k u H' (sm.trans e) hd
      have fin : ∀ (H4 : Hp) (b : Addr), Same H1 H4 → H4 b = some (.tup (List.replicate h.length (V.int (-1)))) → tTup tNil [some (V.ref ga), some kv, some lv, some fv, some (V.ref sa), o5, o6, o7, o8, o9, o10] H4 fun z H3 => ∃ o, DGet H3 sa (.ref b) o ∧ Q1 (o.getD z) H3 := fun H4 b s4 hb => ⟨Nat.zero_le _, fun p np => by
        have s5 : Same H4 (upd H4 p (.tup [])) := same_new np
        refine ⟨_, DGet.t (s5 _ _ (s4 _ _ (e1' _ _ hsa))) (k := kT (List.replicate h.length (-1))) (by rw [kT_V, hR]; exact s5 _ _ hb), ?_⟩
        rw [valV_pos rfl]
        exact q1 _ _ (s4.trans s5) (dp_same (e1'.trans (s4.trans s5)) hval')⟩
      refine ⟨_, rfl, sa, rfl, .inr ⟨_, .inl (e1' _ _ hsa)⟩, 1, rfl, by show 1 ≤ sizeLine; decide, fun T' nT => ?_⟩
      have sT : Same H1 (upd H1 T' (.tup [.int (-1)])) := same_new nT
      refine ((evv_count TG (σ := [some (V.ref ga), some kv, some lv, some fv, some (V.ref sa), o5, o6, o7, o8, o9, o10]) rfl G).up ((sm.trans e1').trans sT)).go fun u H2 e2 p2 => ?_
      subst p2
      have hT2 : H2 T' = some (.tup [.int (-1)]) := e2 _ _ upd_same
      refine ⟨T', _, _, rfl, rfl, .inl (.inl hT2), by simp, by omega, by omega, by simp, fun e => ?_, fun e p np => ?_⟩
      · have : h.length = 1 := by omega
        refine fin H2 T' (sT.trans e2) ?_
        rw [hT2, this]; rfl
      · refine fin _ p ((sT.trans e2).trans (same_new np)) ?_
        rw [upd_same, List.flatten_replicate_singleton]
        simp
end
end SFW

set_option maxRecDepth 100000
set_option maxHeartbeats 4000000
/-! # Clusters: total as a def, _gatherer, _edge_factors, sum_by_clusters -/
namespace SFW
open PySem PySem.Spec PyProof.Rows L2
open SF (Poly)
abbrev sGat : Stmt := topS 16
abbrev sEF : Stmt := topS 17
abbrev sClus : Stmt := topS 18
abbrev nGat : List Str := ["spins", "u", "v", "_"]
theorem scGat : FnScope nGat ["spins"] (defScope sGat) := ⟨rfl, rfl, rfl, by decide +kernel, rfl, by decide +kernel, by decide +kernel⟩
abbrev nEF : List Str := ["spins", "kept", "left_out", "_", "coupling"]
theorem scEF : FnScope nEF ["spins"] (defScope sEF) := ⟨rfl, rfl, rfl, by decide +kernel, rfl, by decide +kernel, by decide +kernel⟩
abbrev nClus : List Str := ["spins", "kept", "left_out"]
theorem scClus : FnScope nClus ["spins"] (defScope sClus) := ⟨rfl, rfl, rfl, by decide +kernel, rfl, by decide +kernel, by decide +kernel⟩
/-- C(..) -/
theorem evp_make {σ : L2.St} {H : Hp} {P : V → Hp → Prop} {C : Addr} {sp : Sp} {E : XK} {tr : TA} {PA : List V → Hp → Prop} (ha : EvAP tr σ H PA)
    (k : ∀ vs H1, Same H H1 → PA vs H1 → ∀ Q : VK, (∀ v H2, Same H1 H2 → P v H2 → Q v H2) → ∀ x dx, H1 x = none → H1 dx = none → dx ≠ x → sp (.ref x :: vs) (upd (upd H1 dx (.own x)) x (.ins C dx [])) (fun v H2 => v = .non ∧ Q (.ref x) H2) E) : EvP (tMake C sp [] E tr) σ H P := fun H1 e1 Q q =>
  ha H1 e1 _ fun vs H2 e2 p2 x dx nx ndx hne => by
    rw [List.append_nil]
    exact k vs H2 (e1.trans e2) p2 Q (fun v H3 e3 p3 => q v H3 (e2.trans e3) p3) x dx nx ndx hne
theorem same_made {H : Hp} {x dx C : Addr} (nx : H x = none) (ndx : H dx = none) (hne : dx ≠ x) : Same H (upd (upd H dx (.own x)) x (.ins C dx [])) := (same_new ndx).trans (same_new (by rw [upd_ne hne.symm]; exact nx))
section
variable {P : Program} {w : World} {K : PySem.W.Frag} {mg : Str → Option Value} {base : Heap} {C CF CG : Addr}
theorem ok_total {f fP fT fJ : Addr} {fd fdP fdT fdJ : FuncData} {one : V} {uOne : Value} (F : Fun K "total" "Gatherer.total" sTotal f fd) (TG : GatTxt K CG) (hOne : ∀ H, Dp K H one (polyD [((0, 0), 1)])) (mOne : mg "ONE" = some uOne) (rOne : RelV one uOne) (me : mg "enumerate" = none) (mr : mg "range" = none) (mt : mg "tuple" = none)
    (GP : FnOk P w K mg base CX0 4 fP fdP ["self", "sums", "parts", "number", "at", "factors"] (spPut K CG CF)) (mP : Meth K CG "_put" fP) (bP : Binds K fdP ["self", "sums", "parts", "number", "at", "factors"] [])
    (GT : FnOk P w K mg base CX0 2 fT fdT ["p", "q"] (spD K domTimes)) (gT : mg "times" = some (.ref fT)) (kT : PySem.W.keepIn K (.ref fT) = true) (bT : Binds K fdT ["p", "q"] [])
    (GJ : FnOk P w K mg base CX0 1 fJ fdJ ["parts", "u", "v"] (spD K domJoined)) (gJ : mg "_joined" = some (.ref fJ)) (kJ : PySem.W.keepIn K (.ref fJ) = true) (bJ : Binds K fdJ ["parts", "u", "v"] []) :
    FnOk P w K mg base CX0 5 f fd ["self", "kept", "left_out", "factors"] (spTotal K CG CF) := by
  refine F.ok scTotal (fun vs H Q E h => ?_) (fun cdv A outer s H vs Q E hr h => ⟨t_total K CG CF one, ?_, pure_total TG hOne vs H Q E h⟩)
  · obtain ⟨gv, kv, lv, fv, h, es, rfl, _⟩ := h; rfl
  · have hu := hu_of hr
    have hr1 : Room 1 _ := hr.mono (by decide)
    have hr2 : Room 2 _ := hr.mono (by decide)
    exact pss_cons (ps_set (i := 4) scTotal.nd rfl (.inl rfl) pe_dnewT)
      (pss_cons (ps_expr (by exact (pe_meth (pv 0) TG.cl mP GP hr bP .nil pass0 (pa_cons (pv 4) (pa_cons (pe_tupRg rfl (by rfl) mt (prg_1 (by rfl) mr (pe_fld (pv 0) rfl))) (pa_cons (pe_glob (by rfl) mOne rOne) (pa_cons (pe_un un_neg pe_int) (pa_cons (pv 3) pa_nil))))))))
      (pss_cons (ps_for PassesOwn.never rfl (by exact (pi_enum (by rfl) me (pa_cons (pe_fld (pv 0) rfl) pa_nil))) (by exact (pg_tup rfl (pgs_cons (pg_name (i := 5) scTotal.nd rfl (.inl rfl)) (pgs_cons (pg_tup rfl (pgs_cons (pg_name (i := 6) scTotal.nd rfl (.inl rfl)) (pgs_cons (pg_name (i := 7) scTotal.nd rfl (.inl rfl)) pgs_nil))) pgs_nil))))
        (pss_cons (ps_set (i := 8) scTotal.nd rfl (.inl rfl) pe_dnewT)
        (pss_cons (ps_lock (ps_for PassesOwn.never rfl (by exact (pi_itemsT (pv 4))) (by exact (pg_tup rfl (pgs_cons (pg_name (i := 9) scTotal.nd rfl (.inl rfl)) (pgs_cons (pg_name (i := 10) scTotal.nd rfl (.inl rfl)) pgs_nil))))
          (pss_cons (ps_expr (by exact (pe_meth (pv 0) TG.cl mP GP hr bP .nil pass0 (pa_cons (pv 8) (pa_cons (pv 9) (pa_cons (pe_call GT hr2 rfl gT kT bT .nil pass0 (pa_cons (pv 10) (pa_cons (pe_ix ix_list (pv 2) (pv 5) (fun _ _ => rfl)) pa_nil))) (pa_cons (pv 5) (pa_cons (pv 3) pa_nil))))))))
          (pss_one (ps_expr (by exact (pe_meth (pv 0) TG.cl mP GP hr bP .nil pass0 (pa_cons (pv 8) (pa_cons (pe_call GJ hr1 rfl gJ kJ bJ .nil pass0 (pa_cons (pv 9) (pa_cons (pv 6) (pa_cons (pv 7) pa_nil)))) (pa_cons (pe_call GT hr2 rfl gT kT bT .nil pass0 (pa_cons (pv 10) (pa_cons (pe_ix ix_list (pv 1) (pv 5) (fun _ _ => rfl)) pa_nil))) (pa_cons (pv 5) (pa_cons (pv 3) pa_nil))))))))))))
        (pss_one (ps_set (i := 4) scTotal.nd rfl (.inl rfl) (pv 8))))))
      (pss_one (ps_ret (by exact (pe_dget2 hu (pv 4) (pe_op op_repT1 (pe_tup (pa_cons (pe_un un_neg pe_int) pa_nil)) (pe_fld (pv 0) rfl)) (pe_tup pa_nil) ⟨rfl, rfl, rfl, rfl⟩))))))
def spGat (K : PySem.W.Frag) (C CG : Addr) : Sp := fun vs H Q _ => ∃ (v : V) (h : List Int) (es : List SF.Edge), vs = [v] ∧ SpinsAt K C H v h es ∧ SF.Wf h es ∧ ∀ u H', Same H H' → GatAt K CG H' u h.length es → Q u H'
theorem ok_gat {f fI : Addr} {fd fdI : FuncData} (F : Fun K "_gatherer" "_gatherer" sGat f fd) (T : SpinTxt K C) (M : Mk K CG fI) (GI : FnOk P w K mg base CX0 1 fI fdI ["self", "count", "edges"] (spGatI K CG)) (gI : mg "Gatherer" = some (.ref CG)) (bI : Binds K fdI ["self", "count", "edges"] []) (ml : mg "len" = none) :
    FnOk P w K mg base CX0 3 f fd ["spins"] (spGat K C CG) := by
  refine F.ok scGat (fun vs H Q E h => ?_) (fun cdv A outer s H vs Q E hr h => ?_)
  · obtain ⟨v, h, es, rfl, _⟩ := h; rfl
  · obtain ⟨v, h, es, rfl, S, wf, k⟩ := h
    refine ⟨_, pss_one (ps_ret (pe_make M GI hr rfl gI bI .nil pass0 (pa_cons (pe_callB call_len_seq (by rfl) ml b_len (pa_cons (pe_fld (pv 0) rfl) pa_nil)) (pa_cons (pe_lc (own := [("u", 1), ("v", 2), ("_", 3)]) (g := gTup K 3 (gCons (gName 1) (gCons (gName 2) (gCons (gName 3) gNil)))) (tt := tYes) rfl scGat.nd (pi_tup (pe_fld (pv 0) rfl)) (blkOk_by (N := nGat) (sc := defScope sGat) (by decide +kernel))
      (fun _ _ _ _ _ => pg_tup rfl (pgs_cons (pg_name (i := 1) scGat.nd rfl (.inl rfl)) (pgs_cons (pg_name (i := 2) scGat.nd rfl (.inl rfl)) (pgs_cons (pg_name (i := 3) scGat.nd rfl (.inl rfl)) pgs_nil)))) (fun _ _ _ _ _ => pts_nil) (fun _ _ _ _ _ => pe_tup (pa_cons (pv 1) (pa_cons (pv 2) pa_nil)))) pa_nil)))), ?_⟩
    refine s_end (Q := Q) (P := fun u H' => GatAt K CG H' u h.length es) (evp_make (ead_cons (K := K) (evv_d ((evv_lenT (evd_fields (σ := start nGat [v]) (i := 0) T rfl S)).vis (by rw [List.length_map]))) (ead_cons (evd_lcA (l := es) (src_tup (evd_edges (i := 0) T rfl S)).map (by have := wf.few; rw [sizeLine_eq]; omega) endsD (fun _ => rfl) fun t x H' ht e yd R kk => ?_) ead_nil)) fun vs' H1 e1 p1 Q1 q1 x dx nx ndx hne => ?_) k
    · obtain ⟨pa, xu, xv, xj, rfl, h1, h2, h3, h4⟩ := dp_triple yd
      cases dp_int h2
      cases dp_int h3
      cases dp_int h4
      refine ⟨pa, _, rfl, h1, rfl, _, _, rfl, _, _, rfl, _, _, rfl, rfl, ?_⟩
      exact kk _ rfl (evd_tup (ead_cons (evv_d (evv_var rfl)) (ead_cons (evv_d (evv_var rfl)) ead_nil)) (by show 2 ≤ sizeLine; decide))
    · obtain ⟨a1, ev, rfl, ha1, hev⟩ := dpa_two p1
      cases dp_int ha1
      have s1 := same_made (C := CG) nx ndx hne
      refine ⟨x, dx, ev, h.length, es, rfl, upd_same, dp_same s1 hev, fun e he => ⟨by have := wf.lt e he; omega, (wf.lt e he).2⟩, wf.hi, fun H' lv hk hx hl => ⟨rfl, ?_⟩⟩
      have s2 : Same H1 H' := fun b o hb => hk b o (s1 _ _ hb) (ne_of_none hb nx)
      exact q1 (.ref x) H' s2 ⟨x, dx, ev, lv, rfl, hx, dp_same s2 hev, hl⟩
/-- _edge_factors(spins) -/
def spEF (K : PySem.W.Frag) (C : Addr) : Sp := fun vs H Q _ => ∃ (v : V) (h : List Int) (es : List SF.Edge), vs = [v] ∧ SpinsAt K C H v h es ∧ SF.Wf h es ∧ ∀ u H', Same H H' → Dp K H' u (.tuple [keptD es, leftD es]) → Q u H'
theorem ok_ef {f fP : Addr} {fd fdP : FuncData} (F : Fun K "_edge_factors" "_edge_factors" sEF f fd) (T : SpinTxt K C) (GP : FnOk P w K mg base CX0 2 fP fdP ["terms"] (spD K domPoly)) (gP : mg "polynomial" = some (.ref fP)) (kP : PySem.W.keepIn K (.ref fP) = true) (bP : Binds K fdP ["terms"] []) :
    FnOk P w K mg base CX0 3 f fd ["spins"] (spEF K C) := by
  refine F.ok scEF (fun vs H Q E h => ?_) (fun cdv A outer s H vs Q E hr h => ?_)
  · obtain ⟨v, h, es, rfl, _⟩ := h; rfl
  · obtain ⟨v, h, es, rfl, S, wf, k⟩ := h
    refine ⟨_, pss_cons (ps_set (i := 1) scEF.nd rfl (.inl rfl) (pe_lst pa_nil)) (pss_cons (ps_set (i := 2) scEF.nd rfl (.inl rfl) (pe_lst pa_nil))
      (pss_cons (ps_for PassesOwn.never rfl (pi_tup (pe_fld (pv 0) rfl)) (pg_tup rfl (pgs_cons (pg_name (i := 3) scEF.nd rfl (.inl rfl)) (pgs_cons (pg_name (i := 3) scEF.nd rfl (.inl rfl)) (pgs_cons (pg_name (i := 4) scEF.nd rfl (.inl rfl)) pgs_nil))))
        (pss_cons (ps_expr (pe_bm PySem.F.plainAttrs_list PySem.F.slot_list_append PySem.F.type_list_append mt_append (pv 2) (pa_cons (pe_tup (pa_cons (pe_tup (pa_cons (pe_tup (pa_cons (pv 4) (pa_cons pe_int pa_nil))) (pa_cons pe_int pa_nil))) pa_nil)) pa_nil)))
        (pss_one (ps_expr (pe_bm PySem.F.plainAttrs_list PySem.F.slot_list_append PySem.F.type_list_append mt_append (pv 1) (pa_cons (pe_call GP hr rfl gP kP bP .nil pass0 (pa_cons (pe_lst (pa_cons (pe_tup (pa_cons (pe_tup (pa_cons pe_int (pa_cons pe_int pa_nil))) (pa_cons pe_int pa_nil)))
          (pa_cons (pe_tup (pa_cons (pe_tup (pa_cons (pv 4) (pa_cons pe_int pa_nil))) (pa_cons (pe_un un_neg pe_int) pa_nil))) pa_nil))) pa_nil)) pa_nil))))))
      (pss_one (ps_ret (pe_tup (pa_cons (pv 1) (pa_cons (pv 2) pa_nil))))))), ?_⟩
    refine q_set (evp_lstN (K := K) (ds := []) ead_nil (Nat.zero_le _)) fun u H1 e1 p1 => ?_
    obtain ⟨ka, kx0, rfl, nka, hka, hkx⟩ := p1
    cases dpa_nil hkx
    refine q_set (evp_lstN (K := K) (ds := []) ead_nil (Nat.zero_le _)) fun u H2 e2 p2 => ?_
    obtain ⟨la, lx0, rfl, nla1, hla, hlx⟩ := p2
    cases dpa_nil hlx
    have nla : H la = none := e1.free nla1
    have kal : ka ≠ la := ne_of_none hka nla1
    obtain ⟨sa, dx, fv, ev, rfl, hs1, hs2, hs3⟩ := id S
    obtain ⟨ea, exs, rfl, he1, he2⟩ := dp_tup hs3
    have noK : ∀ i, noLs ((es.take i).map fun e => polyD (SF.cf [((0, 0), 1), ((e.2.2, 0), -1)])) = true := fun i => noLs_map fun _ _ => noL_poly _
    have noLl : ∀ i, noLs ((es.take i).map fun e => polyD [((e.2.2, 0), 1)]) = true := fun i => noLs_map fun _ _ => noL_poly _
    refine q_for (Hb := H) (l := es) (fun R r => ⟨_, rfl, sa, C, dx, _, _, rfl, (e1.trans e2) _ _ hs1, T.cl, T.ne, spinF_e _ _, ea, rfl, ⟨exs, sqt_same (e1.trans e2) he1⟩, r⟩) (walkL_tup he1 he2).map
      (fun i σ' H' => ∃ y3 y4 kxs lxs, σ' = [some (.ref sa), some (.ref ka), some (.ref la), y3, y4] ∧ Same H H' ∧ H' ka = some (.lst kxs) ∧ DpAll K H' kxs ((es.take i).map fun e => polyD (SF.cf [((0, 0), 1), ((e.2.2, 0), -1)])) ∧ H' la = some (.lst lxs) ∧ DpAll K H' lxs ((es.take i).map fun e => polyD [((e.2.2, 0), 1)]))
      ⟨none, none, [], [], rfl, e1.trans e2, e2 _ _ hka, .nil, hla, .nil⟩ (fun i σ' H' ⟨_, _, _, _, _, sm, _⟩ => sm) (fun i e x σ' H' H'' he pv' e3 yd => ?_) (fun σ' H' pv' => ?_)
    · obtain ⟨y3, y4, kxs, lxs, rfl, sm, hk', hkd, hl', hld⟩ := pv'
      obtain ⟨pa, xu, xv, xj, rfl, h1, h2, h3, h4⟩ := dp_triple yd
      cases dp_int h2
      cases dp_int h3
      cases dp_int h4
      have hi : i < es.length := (List.getElem?_eq_some_iff.mp he).1
      have e10 := wf.few
      refine ⟨pa, _, rfl, h1, rfl, _, _, rfl, _, _, rfl, _, _, rfl, rfl, ?_⟩
      refine ⟨_, rfl, .inl ⟨rfl, _, .inl (.inl (e3 _ _ hl'))⟩, ?_⟩
      refine (evd_tup (K := K) (ds := [termD ((e.2.2, 0), 1)]) (ead_cons (evd_tup (ead_cons (evd_tup (ead_cons (evv_d (evv_var rfl)) (ead_cons evd_int ead_nil)) (by show 2 ≤ sizeLine; decide)) (ead_cons evd_int ead_nil)) (by show 2 ≤ sizeLine; decide)) ead_nil) (by show 1 ≤ sizeLine; decide)).go fun v1 H3 s3 q1 => ?_
      have hl3 := s3 _ _ (e3 _ _ hl')
      refine ⟨la, lxs, v1, rfl, rfl, hl3, by rw [dpa_len hld, List.length_map, List.length_take, sizeLine_eq]; omega, ?_⟩
      have sT3 : SameT H3 (upd H3 la (.lst (lxs ++ [v1]))) := .lst hl3
      have s03 := (sm.trans e3).trans s3
      have hk3 : upd H3 la (.lst (lxs ++ [v1])) ka = some (.lst kxs) := by rw [upd_ne kal]; exact s3 _ _ (e3 _ _ hk')
      refine ⟨_, rfl, .inl ⟨rfl, _, .inl (.inl hk3)⟩, ?_⟩
      refine (evd_call (K := K) (dom := domPoly) (d := polyD (SF.cf [((0, 0), 1), ((e.2.2, 0), -1)])) (ds := [.list ([((0, 0), 1), ((e.2.2, 0), -1)].map termD)]) (ead_cons (evd_lst (ead_cons (evd_tup (ead_cons (evd_tup (ead_cons evd_int (ead_cons evd_int ead_nil)) (by show 2 ≤ sizeLine; decide)) (ead_cons evd_int ead_nil)) (by show 2 ≤ sizeLine; decide))
        (ead_cons (evd_tup (ead_cons (evd_tup (ead_cons (evv_d (evv_var rfl)) (ead_cons evd_int ead_nil)) (by show 2 ≤ sizeLine; decide)) (ead_cons (evv_d (evv_neg evv_c)) ead_nil)) (by show 2 ≤ sizeLine; decide)) ead_nil)) (by show 2 ≤ sizeLine; decide)) ead_nil) ⟨_, .inl rfl, by show 2 < sizeLine; decide, rfl⟩).go fun v2 H4 s4 q2 => ?_
      have hk4 := s4 _ _ hk3
      refine ⟨ka, kxs, v2, rfl, rfl, hk4, by rw [dpa_len hkd, List.length_map, List.length_take, sizeLine_eq]; omega, ?_⟩
      have sT4 : SameT H4 (upd H4 ka (.lst (kxs ++ [v2]))) := .lst hk4
      have sTT := (sT3.trans (.of s4)).trans sT4
      refine ⟨_, _, _, _, rfl, same_mut ((same_mut s03 nla).trans s4) nka, upd_same, ?_, by rw [upd_ne kal.symm]; exact s4 _ _ upd_same, ?_⟩
      · rw [take_next he, List.map_append]
        exact dpa_snoc (dpa_sameT sTT (noK i) (dpa_same (e3.trans s3) hkd)) (dp_sameT sT4 (noL_poly _) q2)
      · rw [take_next he, List.map_append]
        exact dpa_snoc (dpa_sameT sTT (noLl i) (dpa_same (e3.trans s3) hld)) (dp_sameT sTT (noL_poly _) q1)
    · obtain ⟨y3, y4, kxs, lxs, rfl, sm, hk', hkd, hl', hld⟩ := pv'
      rw [List.take_length] at hkd hld
      exact s_end (Q := Q) (evd_tup (K := K) (ds := [keptD es, leftD es]) (ead_cons (evd_var rfl (.lst (.inl (.inl hk')) hkd)) (ead_cons (evd_var rfl (.lst (.inl (.inl hl')) hld)) ead_nil)) (by show 2 ≤ sizeLine; decide)) fun u H' e hd => k u H' (sm.trans e) hd
theorem gat_total (n : Int) (ev lv : V) : (gatF n ev lv).lookup ("total" : Str) = none := by
  have h1 : (("total" : Str) == "_count") = false := beq_eq_false_iff_ne.mpr (by decide +kernel)
  have h2 : (("total" : Str) == "_edges") = false := beq_eq_false_iff_ne.mpr (by decide +kernel)
  have h3 : (("total" : Str) == "_last") = false := beq_eq_false_iff_ne.mpr (by decide +kernel)
  simp [gatF, List.lookup, h1, h2, h3]
theorem ok_clus {f fE fG fT fI : Addr} {fd fdE fdG fdT fdI : FuncData} (F : Fun K "sum_by_clusters" "sum_by_clusters" sClus f fd) (T : SpinTxt K C) (TG : GatTxt K CG)
    (GE : FnOk P w K mg base CX0 3 fE fdE ["spins"] (spEF K C)) (gE : mg "_edge_factors" = some (.ref fE)) (kE : PySem.W.keepIn K (.ref fE) = true) (bE : Binds K fdE ["spins"] [])
    (GG : FnOk P w K mg base CX0 3 fG fdG ["spins"] (spGat K C CG)) (gG : mg "_gatherer" = some (.ref fG)) (kG : PySem.W.keepIn K (.ref fG) = true) (bG : Binds K fdG ["spins"] [])
    (GT : FnOk P w K mg base CX0 5 fT fdT ["self", "kept", "left_out", "factors"] (spTotal K CG CF)) (mT : Meth K CG "total" fT) (bT : Binds K fdT ["self", "kept", "left_out", "factors"] [])
    (M : Mk K CF fI) (GI : FnOk P w K mg base CX0 1 fI fdI ["self", "fields"] (spFacI CF)) (gI : mg "SpinFactors" = some (.ref CF)) (bI : Binds K fdI ["self", "fields"] []) :
    FnOk P w K mg base CX0 6 f fd ["spins"] (spSum K C) := by
  refine F.ok scClus (fun vs H Q E h => ?_) (fun cdv A outer s H vs Q E hr h => ?_)
  · obtain ⟨v, h, es, rfl, _⟩ := h; rfl
  · obtain ⟨v, h, es, rfl, S, wf, k⟩ := h
    have hr2 : Room (1 + 1) _ := hr.mono (by decide)
    have hr3 : Room 3 _ := hr.mono (by decide)
    refine ⟨_, pss_cons (ps_asg (pe_call GE hr3 rfl gE kE bE .nil pass0 (pa_cons (pv 0) pa_nil)) (pg_tup (by rfl) (pgs_cons (pg_name (i := 1) scClus.nd rfl (.inl rfl)) (pgs_cons (pg_name (i := 2) scClus.nd rfl (.inl rfl)) pgs_nil))))
      (pss_one (ps_ret (pe_meth (pe_call GG hr3 rfl gG kG bG .nil pass0 (pa_cons (pv 0) pa_nil)) TG.cl mT GT hr bT .nil pass0 (pa_cons (pv 1) (pa_cons (pv 2) (pa_cons (pe_make M GI hr2 rfl gI bI .nil pass0 (pa_cons (pe_fld (pv 0) rfl) pa_nil)) pa_nil)))))), ?_⟩
    refine (evp_callV (P := fun u H' => Dp K H' u (.tuple [keptD es, leftD es])) (eav_cons (evv_var (σ := start nClus [v]) (i := 0) rfl) eav_nil) fun H1 e1 Q q => ⟨v, h, es, rfl, S.same e1, wf, fun u H2 e2 hd => q u H2 e2 hd⟩).go fun u H1 e1 hu1 => ?_
    obtain ⟨a, kv, lv, rfl, ha, hkv, hlv⟩ := dp_pair hu1
    refine ⟨a, _, rfl, ha, rfl, _, _, rfl, _, _, rfl, rfl, ?_⟩
    dsimp only
    refine s_end (Q := Q) (P := fun u H' => Dp K H' u (polyD (SF.Z h es))) (fun H2 e2 Q2 q2 => ?_) fun u H' e hd => k u H' (e1.trans e) hd
    refine (evp_callV (P := fun u H' => GatAt K CG H' u h.length es) (σ := ((start nClus [v]).set 1 (some kv)).set 2 (some lv)) (eav_cons (evv_var (i := 0) rfl) eav_nil) fun H3 e3 Q q => ⟨v, h, es, rfl, S.same ((e1.trans e2).trans e3), wf, fun u H4 e4 hd => q u H4 e4 hd⟩).go fun gv H3 e3 hG => ?_
    obtain ⟨ga, dx, ev, lv', rfl, hg1, _, _⟩ := id hG
    refine ⟨ga, dx, _, rfl, hg1, gat_total _ _ _, ?_⟩
    have s3 := (e1.trans e2).trans e3
    refine ⟨_, rfl, _, rfl, ?_⟩
    refine (evp_make (C := CF) (sp := spFacI CF) (E := E0) (σ := ((start nClus [v]).set 1 (some kv)).set 2 (some lv)) (P := fun u H' => FacAt K CF H' u h) (ead_cons (K := K) (evd_fields (i := 0) T rfl (S.same s3)) ead_nil) fun vs4 H4 e4 p4 Q4 q4 x dx4 nx ndx hne => ?_).go fun fv H4 e4 hF => ?_
    · obtain ⟨fv, rfl, hfv⟩ := dpa_one p4
      have s5 := same_made (C := CF) nx ndx hne
      refine ⟨x, dx4, fv, rfl, upd_same, fun H' hk hx => ⟨rfl, ?_⟩⟩
      have s6 : Same H4 H' := fun b o hb => hk b o (s5 _ _ hb) (ne_of_none hb nx)
      exact q4 (.ref x) H' s6 ⟨x, dx4, fv, rfl, hx, dp_same s6 hfv⟩
    · exact ⟨.ref ga, kv, lv, fv, h, es, rfl, hG.same e4, hF, wf, dp_same (e2.trans (e3.trans e4)) hkv, dp_same (e2.trans (e3.trans e4)) hlv, fun u H5 e5 hd => q2 u H5 (e3.trans (e4.trans e5)) hd⟩
end
end SFW

set_option maxRecDepth 100000
set_option maxHeartbeats 4000000
/-! # Loops: check_no_field, even_weights -/
namespace SFW
open PySem PySem.Spec PyProof.Rows L2
open SF (Poly)
abbrev sCheck : Stmt := topS 19
abbrev sEven : Stmt := topS 22
abbrev sLoops : Stmt := topS 23
abbrev nCheck : List Str := ["spins", "field"]
theorem scCheck : FnScope nCheck ["spins"] (defScope sCheck) := ⟨rfl, rfl, rfl, by decide +kernel, rfl, by decide +kernel, by decide +kernel⟩
abbrev nEven : List Str := ["edges", "inside", "outside", "sums", "u", "v", "own", "other", "later", "mask", "number", "key", "factor"]
theorem scEven : FnScope nEven ["edges", "inside", "outside"] (defScope sEven) := ⟨rfl, rfl, rfl, by decide +kernel, rfl, by decide +kernel, by decide +kernel⟩
section
variable {P : Program} {w : World} {K : PySem.W.Frag} {mg : Str → Option Value} {base : Heap} {C CH : Addr}
def spCheck (K : PySem.W.Frag) (C CH : Addr) : Sp := fun vs H Q E => ∃ (v : V) (h : List Int) (es : List SF.Edge), vs = [v] ∧ SpinsAt K C H v h es ∧ h.length ≤ 6 ∧
  ((∀ x ∈ h, x = 0) → ∀ H', Same H H' → Q .non H') ∧ (¬ (∀ x ∈ h, x = 0) → ∀ H', Same H H' → E (.ref CH) none H')
theorem ok_check {f : Addr} {fd : FuncData} {bmB : List Value} (F : Fun K "check_no_field" "check_no_field" sCheck f fd) (T : SpinTxt K C) (ma : mg "any" = none)
    (xP : PySem.W.excIn K CH bmB "ValueError.__new__" = true) (FB : ExcBaseFacts "ValueError" "ValueError.__new__" "ValueError.__init__" bmB) (gH : mg "HasField" = some (.ref CH)) (kH : PySem.W.keepIn K (.ref CH) = true) (h1 : PySem.W.subIn K (.ref CH) (.type "BaseException") = some true) (h2 : PySem.W.typeIn K (.ref CH) = some (.type "type")) :
    FnOk P w K mg base (L2.CX P w) 1 f fd ["spins"] (spCheck K C CH) := by
  refine F.okX scCheck (fun vs H Q E h => ?_) (fun cdv A outer s H vs Q E hr h => ?_)
  · obtain ⟨v, h, es, rfl, _⟩ := h; rfl
  · obtain ⟨v, h, es, rfl, S, hl, k1, k2⟩ := h
    refine ⟨_, pss_one (ps_if (pt_val (pe_callB (cr_any rfl) (by rfl) ma b_any (pa_cons (pe_lc (own := [("field", 1)]) (g := gName 1) (tt := tYes) (te := tOp rNe (tVar 1) (tC (.int 0))) rfl scCheck.nd (pi_tup (pe_fld (pv 0) rfl)) (blkOk_by (N := nCheck) (sc := defScope sCheck) (by decide +kernel))
          (fun _ _ _ _ _ => pg_name (i := 1) scCheck.nd rfl (.inl rfl)) (fun _ _ _ _ _ => pts_nil) (fun _ _ _ _ _ => pe_cmpR op_ne (pv 1) pe_int (nomark _))) pa_nil)))
        (pss_one (ps_raise rfl (takes_of rfl rfl rfl rfl) (pmk_own FB xP gH kH (raises_own h1 h2) rfl))) pss_nil), ?_⟩
    refine s_when (b := (h.map fun x => !decide (x = 0)).any id) (evb_B (evv_any ?_)) (fun hb H1 e1 => ?_) (fun hb H1 e1 => ?_)
    · rw [List.map_map]
      refine evd_lcA (l := h) (src_tup (evd_fields (i := 0) T rfl S)).map (by rw [sizeLine_eq]; omega) _ (fun _ => rfl) fun t x H' ht e yd R kk => ?_
      cases dp_int yd
      refine kk _ rfl (evd_bl ((evv_ne (evv_var rfl) evv_c).vis ?_))
      simp
    · refine k2 (fun z => ?_) H1 e1
      rw [List.any_map, List.any_eq_true] at hb
      obtain ⟨x, hx, hb⟩ := hb
      simp [z x hx] at hb
    · refine k1 (fun x hx => ?_) H1 e1
      rw [List.any_map, List.any_eq_false] at hb
      have := hb x hx
      simpa using this
end
end SFW

set_option maxRecDepth 100000
set_option maxHeartbeats 4000000
/-! # Loops: even_weights -/
namespace SFW
open PySem PySem.Spec PyProof.Rows L2
open SF (Poly)
def pairD (e : SF.Edge) : PyData := .tuple [.int (e.1 : Int), .int (e.2.1 : Int)]
theorem pairD_def (e : SF.Edge) : pairD e = .tuple [.int (e.1 : Int), .int (e.2.1 : Int)] := rfl
section
variable {K : PySem.W.Frag} {H : Hp}
theorem walkL_zip3 {α : Type} {a b c : Addr} {xs ys zs : List V} {es : List α} {f g h : α → PyData} (ha : SqL K H a xs) (hx : DpAll K H xs (es.map f)) (hb : SqL K H b ys) (hy : DpAll K H ys (es.map g)) (hc : SqL K H c zs) (hz : DpAll K H zs (es.map h)) :
    WalkL (Itz3 K a b c) es H (fun e x H' => ∃ T u v w, x = .ref T ∧ H' T = some (.tup [u, v, w]) ∧ Dp K H' u (f e) ∧ Dp K H' v (g e) ∧ Dp K H' w (h e)) (fun H' => SqL K H' a xs ∧ SqL K H' b ys ∧ SqL K H' c zs)
      (fun i H v H' => ∃ T x y z, v = .ref T ∧ H T = none ∧ H' = upd H T (.tup [x, y, z]) ∧ xs[i]? = some x ∧ ys[i]? = some y ∧ zs[i]? = some z) := by
  have l1 := dpa_len hx
  have l2 := dpa_len hy
  have l3 := dpa_len hz
  rw [List.length_map] at l1 l2 l3
  refine ⟨?_, fun H3 e3 => ⟨sql_same e3 ha, sql_same e3 hb, sql_same e3 hc⟩, fun i e H3 x H4 he e3 y => ?_⟩
  · rw [← l1]; exact walk_zip3 (by omega) (by omega)
  · obtain ⟨T, x', y', z', rfl, nT, rfl, f1, f2, f3⟩ := y
    obtain ⟨d1, hd1, p1⟩ := dpa_get hx f1
    obtain ⟨d2, hd2, p2⟩ := dpa_get hy f2
    obtain ⟨d3, hd3, p3⟩ := dpa_get hz f3
    rw [List.getElem?_map, he] at hd1 hd2 hd3
    cases hd1
    cases hd2
    cases hd3
    have s := e3.trans (same_new (o := .tup [x', y', z']) nT)
    exact ⟨same_new nT, T, x', y', z', rfl, upd_same, dp_same s p1, dp_same s p2, dp_same s p3⟩
end
/-- for key, factor in ..: the body -/
def t_key (K : PySem.W.Frag) : TS :=
  sDPut (tVar 8) (tVar 11) (tCall (spD K domPlus) [] E0 (tCons (tDGet2 (tVar 8) (tVar 11) (tTup tNil)) (tCons (tCall (spD K domTimes) [] E0 (tCons (tVar 10) (tCons (tVar 12) tNil))) tNil)))
/-- for mask, number in sums.items(): the body -/
def t_mask (K : PySem.W.Frag) : TS :=
  tFor (iTup K (tTup (tCons (tTup (tCons (tVar 9) (tCons (tVar 7) tNil))) (tCons (tTup (tCons (tOp (rI0 fun i j => .int (Builtin.bitXor i j)) (tVar 9) (tCall (spD K domEnds) [] E0 (tCons (tVar 4) (tCons (tVar 5) tNil)))) (tCons (tVar 6) tNil))) tNil)))) (gTup K 2 (gCons (gName 11) (gCons (gName 12) gNil))) (t_key K)
/-- for (u, v), own, other in ..: the body -/
def t_turn (K : PySem.W.Frag) : TS :=
  tSeq (tAsg tDNewK (gName 8)) (tSeq (tLock (tFor (iItems (tVar 3)) (gTup K 2 (gCons (gName 9) (gCons (gName 10) gNil))) (t_mask K))) (tAsg (tVar 8) (gName 3)))
def t_even (K : PySem.W.Frag) : TS :=
  tSeq (tAsg (tDisp [(tC (.int 0), tTup (tCons (tTup (tCons (tTup (tCons (tC (.int 0)) (tCons (tC (.int 0)) tNil))) (tCons (tC (.int 1)) tNil))) tNil))]) (gName 3))
  (tSeq (tFor (iZip3 K (tCons (tVar 0) (tCons (tVar 1) (tCons (tVar 2) tNil)))) (gTup K 3 (gCons (gTup K 2 (gCons (gName 4) (gCons (gName 5) gNil))) (gCons (gName 6) (gCons (gName 7) gNil)))) (t_turn K)) (tRet (tDGet2 (tVar 3) (tC (.int 0)) (tTup tNil))))
section
variable {P : Program} {w : World} {K : PySem.W.Frag} {mg : Str → Option Value} {base : Heap} {C CH : Addr}
def spEven (K : PySem.W.Frag) : Sp := fun vs H Q _ => ∃ (a b c : V) (n : Nat) (es : List SF.Edge), vs = [a, b, c] ∧ n ≤ 6 ∧ es.length ≤ 10 ∧ (∀ e ∈ es, e.1 < n ∧ e.2.1 < n) ∧ Dp K H a (.list (es.map pairD)) ∧ Dp K H b (.list (es.map fun e => polyD (SF.inP e.2.2))) ∧ Dp K H c (.list (es.map fun e => polyD (SF.outP e.2.2))) ∧
  ∀ u H' t, Same H H' → SF.LInv n es es.length t → Dp K H' u (polyD (SF.tget t 0)) → Q u H'
def rowM (e0 : SF.Edge) (lt : List (Nat × Poly)) (x : Nat × Poly) : Nat → List (Nat × Poly)
  | 0 => lt
  | 1 => SF.tadd lt x.1 (SF.times x.2 (SF.outP e0.2.2))
  | _ => SF.lrow e0 lt x
theorem outP_nrm (j : Int) : SF.nrm (SF.outP j) ≤ 2 := SF.bi_nrm _ _ _ _
theorem inP_nrm (j : Int) : SF.nrm (SF.inP j) ≤ 2 := SF.bi_nrm _ _ _ _
theorem outP_len (j : Int) : (SF.outP j).length ≤ 2 := Nat.le_trans (SF.cf_canon _).len (outP_nrm j)
theorem inP_len (j : Int) : (SF.inP j).length ≤ 2 := Nat.le_trans (SF.cf_canon _).len (inP_nrm j)
/-- one entry -/
theorem mask_step {D : Ends} {H : Hp} {av bv cv s3 own oth num : V} {o11 o12 : Option V} {la : Addr} {n : Nat} {e0 : SF.Edge} {m : Nat} {nu : Poly} {lkvs : List (L2.Key × V)} {lt : List (Nat × Poly)}
    (h6 : n ≤ 6) (hu : e0.1 < n) (hv : e0.2.1 < n) (hm : m < 2 ^ n) (hown : Dp K H own (polyD (SF.inP e0.2.2))) (hoth : Dp K H oth (polyD (SF.outP e0.2.2))) (hnum : Dp K H num (polyD nu)) (hla : H la = some (.dK lkvs)) (tb : TabG kM K H lkvs lt) (nd : (lt.map (·.1)).Nodup) (ll : lt.length < 900)
    (cn : SF.Canon nu) (nn : SF.nrm nu ≤ 1048576) (can : ∀ x ∈ lt, SF.Canon x.2) (sz : SF.tsz lt (fun _ => 1) ≤ 1048576)
    (nx : ∀ (H' : Hp) (lkvs' : List (L2.Key × V)) (z11 z12 : Option V), Same (hide H la) H' → H' la = some (.dK lkvs') → TabG kM K H' lkvs' (SF.lrow e0 lt (m, nu)) →
      D.nx [some av, some bv, some cv, some s3, some (.int (e0.1 : Int)), some (.int (e0.2.1 : Int)), some own, some oth, some (.ref la), some (.int (m : Int)), some num, z11, z12] H') :
    t_mask K D [some av, some bv, some cv, some s3, some (.int (e0.1 : Int)), some (.int (e0.2.1 : Int)), some own, some oth, some (.ref la), some (.int (m : Int)), some num, o11, o12] H := by
  have m64 : m < 64 := Nat.lt_of_lt_of_le hm (Nat.le_trans (Nat.pow_le_pow_right (by omega) h6) (by decide))
  have e64 : SF.endsM e0.1 e0.2.1 < 64 := Nat.lt_of_lt_of_le (SF.ends_lt hu hv) (Nat.le_trans (Nat.pow_le_pow_right (by omega) h6) (by decide))
  unfold t_mask tFor iTup
  refine (evd_tup (K := K) (H := H) (σ := [some av, some bv, some cv, some s3, some (.int (e0.1 : Int)), some (.int (e0.2.1 : Int)), some own, some oth, some (.ref la), some (.int (m : Int)), some num, o11, o12]) (ds := [(m, SF.outP e0.2.2), (m ^^^ SF.endsM e0.1 e0.2.1, SF.inP e0.2.2)].map fun (x : Nat × Poly) => PyData.tuple [.int (x.1 : Int), polyD x.2]) (ead_cons (evd_tup (ead_cons (evv_d (evv_var (i := 9) rfl)) (ead_cons (evd_var (i := 7) rfl hoth) ead_nil)) (by show 2 ≤ sizeLine; decide))
    (ead_cons (evd_tup (ead_cons (evv_d ((evv_xor (evv_var (i := 9) rfl) (evd_v (evd_call (K := K) (dom := domEnds) (E := E0) (ds := [.int (e0.1 : Int), .int (e0.2.1 : Int)]) (d := .int (SF.endsM e0.1 e0.2.1 : Int)) (ead_cons (evv_d (evv_var (i := 4) rfl)) (ead_cons (evv_d (evv_var (i := 5) rfl)) ead_nil)) ⟨e0.1, e0.2.1, by omega, by omega, rfl, rfl⟩))).vis (by rw [xor64 m m64 _ e64]))) (ead_cons (evd_var (i := 6) rfl hown) ead_nil)) (by show 2 ≤ sizeLine; decide)) ead_nil)) (by show 2 ≤ sizeLine; decide)).go fun u H1 e1 hd => ?_
  obtain ⟨T, xs, rfl, hT, hxs⟩ := dp_tup hd
  refine ⟨T, rfl, ⟨xs, hT⟩, ?_⟩
  have hla1 := e1 _ _ hla
  have hD := hide_D hla1 rfl
  have NN := dp_sameD hD (dp_same e1 hnum)
  have eh : Same (hide H la) (hide H1 la) := hide_of (hide_same.trans e1) hide_self
  refine for_run (walkL_tup (K := K) (a := T) (H := hide H1 la) (hT.elim (fun r => .inl (hD.t _ _ r)) fun r => .inr r) (dpa_sameD hD hxs)).map
    (fun i σ' H' => ∃ z11 z12 lkvs2, σ' = [some av, some bv, some cv, some s3, some (.int (e0.1 : Int)), some (.int (e0.2.1 : Int)), some own, some oth, some (.ref la), some (.int (m : Int)), some num, z11, z12] ∧ Same (hide H1 la) H' ∧ H' la = some (.dK lkvs2) ∧ TabG kM K H' lkvs2 (rowM e0 lt (m, nu) i))
    ⟨o11, o12, lkvs, rfl, hide_same, hla1, tb.up (.of e1)⟩ (fun i σ' H' ⟨_, _, _, _, sm, _⟩ => sm) (fun i y x σ' H' H'' hy pv' e yd => ?_) (fun σ' H' pv' => ?_)
  · obtain ⟨z11, z12, lkvs2, rfl, sm, hl2, tb2⟩ := pv'
    obtain ⟨pa, ky, fa, rfl, hp1, hp2, hp3⟩ := dp_pair yd
    cases dp_int hp2
    have s2 := sm.trans e
    refine ⟨pa, _, rfl, hp1, rfl, _, _, rfl, _, _, rfl, rfl, ?_⟩
    have n1 : SF.nrm (SF.times nu (SF.outP e0.2.2)) ≤ 2097152 := Nat.le_trans (SF.times_nrm _ _) (Nat.le_trans (Nat.mul_le_mul nn (outP_nrm _)) (by omega))
    have hi : i = 0 ∧ y = (m, SF.outP e0.2.2) ∨ i = 1 ∧ y = (m ^^^ SF.endsM e0.1 e0.2.1, SF.inP e0.2.2) := by
      match i, hy with
      | 0, hy => exact .inl ⟨rfl, (Option.some.inj hy).symm⟩
      | 1, hy => exact .inr ⟨rfl, (Option.some.inj hy).symm⟩
    have facts : ((rowM e0 lt (m, nu) i).map (·.1)).Nodup ∧ (rowM e0 lt (m, nu) i).length < 1000 ∧ (∀ x ∈ rowM e0 lt (m, nu) i, SF.Canon x.2) ∧ SF.tsz (rowM e0 lt (m, nu) i) (fun _ => 1) ≤ 4194304 := by
      rcases hi with ⟨rfl, _⟩ | ⟨rfl, _⟩
      · exact ⟨nd, by show lt.length < 1000; omega, can, by show SF.tsz lt _ ≤ 4194304; omega⟩
      · refine ⟨SF.tput_nd nd, ?_, fun x hx => ?_, ?_⟩
        · exact Nat.lt_of_le_of_lt (tput_len m _ lt) (by omega)
        · rcases SF.tadd_mem hx with ⟨_, c⟩ | c
          · exact c
          · exact can x c
        · have := SF.tsz_add (fun _ => 1) m (SF.times nu (SF.outP e0.2.2)) lt
          exact Nat.le_trans this (by omega)
    obtain ⟨f1, f2, f3, f4⟩ := facts
    have ylen : y.2.length ≤ 2 := by
      rcases hi with ⟨_, rfl⟩ | ⟨_, rfl⟩
      · exact outP_len _
      · exact inP_len _
    have ynrm : SF.nrm y.2 ≤ 2 := by
      rcases hi with ⟨_, rfl⟩ | ⟨_, rfl⟩
      · exact outP_nrm _
      · exact inP_nrm _
    refine s_taddK (m := y.1) (t := rowM e0 lt (m, nu) i) (q := SF.times nu y.2) rfl (e _ _ hl2) (tb2.up (.of e)) f1 (by rw [Paired.length tb2, sizeLine_eq]; omega) rfl ?_ ?_ fun H3 lkvs3 e3 tb3 => ?_
    · exact evd_call (K := K) (ds := [polyD nu, polyD y.2]) (ead_cons (evd_var rfl (dp_same s2 NN)) (ead_cons (evd_var rfl hp3) ead_nil)) (domTimes_of cn (by omega) ylen)
    · have h1 := (tget_can f3 y.1).len
      have h2 := SF.tget_sz (fun _ => 1) y.1 (Nat.le_refl 1) (rowM e0 lt (m, nu) i)
      have h3 := (SF.times_canon nu y.2).len
      have h4 : SF.nrm (SF.times nu y.2) ≤ 2097152 := Nat.le_trans (SF.times_nrm _ _) (Nat.le_trans (Nat.mul_le_mul nn ynrm) (by omega))
      rw [sizeLine_eq]; omega
    · refine ⟨_, _, lkvs3, rfl, fun b o hb => ?_, upd_same, ?_⟩
      · have hne : b ≠ la := fun z => by rw [z, hide_self] at hb; cases hb
        rw [upd_ne hne]
        exact e3 _ _ (s2 _ _ hb)
      · rcases hi with ⟨rfl, rfl⟩ | ⟨rfl, rfl⟩
        · exact tb3
        · exact tb3
  · obtain ⟨z11, z12, lkvs2, rfl, sm, hl2, tb2⟩ := pv'
    exact nx H' lkvs2 _ _ (eh.trans sm) hl2 tb2
end
end SFW

set_option maxRecDepth 100000
set_option maxHeartbeats 4000000
/-! # Loops: even_weights, one edge and all -/
namespace SFW
open PySem PySem.Spec PyProof.Rows L2
open SF (Poly)
section
variable {P : Program} {w : World} {K : PySem.W.Frag} {mg : Str → Option Value} {base : Heap} {C CH : Addr}
theorem lrow_len (e0 : SF.Edge) (lt : List (Nat × Poly)) (x : Nat × Poly) : (SF.lrow e0 lt x).length ≤ lt.length + 2 := by
  unfold SF.lrow SF.tadd
  exact Nat.le_trans (tput_len _ _ _) (Nat.succ_le_succ (tput_len _ _ _))
theorem keys_len {n : Nat} {t : List (Nat × Poly)} (h6 : n ≤ 6) (nd : (t.map (·.1)).Nodup) (hk : ∀ x ∈ t, x.1 < 2 ^ n) : t.length ≤ 64 := by
  have p : 2 ^ n ≤ 64 := Nat.le_trans (Nat.pow_le_pow_right (by omega) h6) (by decide)
  have h1 : ((t.map (·.1)).map fun (v : Nat) => (v : Int)).length ≤ 64 := SF.nodup_bd 0 64 _ (List.Pairwise.map _ (fun a b h z => h (by omega)) nd) (fun x hx => by
    obtain ⟨v, hv, rfl⟩ := List.mem_map.mp hx
    obtain ⟨y, hy, rfl⟩ := List.mem_map.mp hv
    have := hk y hy
    omega)
  rwa [List.length_map, List.length_map] at h1
/-- one edge -/
theorem turn_step {D : Ends} {H : Hp} {av bv cv own oth : V} {o8 o9 o10 o11 o12 : Option V} {sa : Addr} {n k : Nat} {es : List SF.Edge} {e0 : SF.Edge} {kvs : List (L2.Key × V)} {t : List (Nat × Poly)}
    (h6 : n ≤ 6) (hu : e0.1 < n) (hv : e0.2.1 < n) (he : es[k]? = some e0) (hk : k ≤ 9) (hown : Dp K H own (polyD (SF.inP e0.2.2))) (hoth : Dp K H oth (polyD (SF.outP e0.2.2))) (hsa : H sa = some (.dK kvs)) (tb : TabG kM K H kvs t) (T : SF.LInv n es k t)
    (nx : ∀ (H' : Hp) (la : Addr) (lkvs : List (L2.Key × V)) (lt : List (Nat × Poly)) (z9 z10 z11 z12 : Option V), Same H H' → H' la = some (.dK lkvs) → TabG kM K H' lkvs lt → SF.LInv n es (k + 1) lt → 
      D.nx [some av, some bv, some cv, some (.ref la), some (.int (e0.1 : Int)), some (.int (e0.2.1 : Int)), some own, some oth, some (.ref la), z9, z10, z11, z12] H') :
    t_turn K D [some av, some bv, some cv, some (.ref sa), some (.int (e0.1 : Int)), some (.int (e0.2.1 : Int)), some own, some oth, o8, o9, o10, o11, o12] H := by
  refine q_set (P := fun u H' => ∃ p, u = .ref p ∧ H p = none ∧ H' p = some (.dK [])) (fun H3 e3 Q q p np => q _ _ (same_new np) ⟨p, rfl, e3.free np, upd_same⟩) fun la0 H3 e3 p3 => ?_
  obtain ⟨la, rfl, nla, hla⟩ := p3
  have fsa : sa ≠ la := ne_of_none hsa nla
  have hsa3 := e3 _ _ hsa
  refine ⟨sa, _, hsa3, True.intro, fun od => ⟨_, rfl, sa, od, kvs, rfl, upd_same, ?_⟩⟩
  have dL : SameD H3 (upd H3 sa (.frz od (.dK kvs))) := .upd hsa3 rfl
  have hlaL : upd H3 sa (.frz od (.dK kvs)) la = some (.dK []) := by rw [upd_ne fsa.symm]; exact hla
  have hsaL : upd H3 sa (.frz od (.dK kvs)) sa = some (.frz od (.dK kvs)) := upd_same
  have ofL : ∀ b o, b ≠ sa → H3 b = some o → upd H3 sa (.frz od (.dK kvs)) b = some o := fun b o hb e => by rw [upd_ne hb]; exact e
  generalize hHL : upd H3 sa (.frz od (.dK kvs)) = HL at dL hlaL hsaL ofL ⊢
  have dW : SameD H3 (hide HL la) := dL.trans (hide_D hlaL rfl)
  have ownW := dp_sameD dW (dp_same e3 hown)
  have othW := dp_sameD dW (dp_same e3 hoth)
  have tbW : TabG kM K (hide HL la) kvs t := (tb.up (.of e3)).up dW
  have hsaW : hide HL la sa = some (.frz od (.dK kvs)) := by rw [hide_ne fsa]; exact hsaL
  have pw : 4 ^ k ≤ 4 ^ 9 := Nat.pow_le_pow_right (by omega) hk
  have tsz := T.sz
  have tl := keys_len h6 T.nd T.key
  refine for_run (walkL_items hsaW) (fun j σ' H' => ∃ lkvs lt z9 z10 z11 z12, σ' = [some av, some bv, some cv, some (.ref sa), some (.int (e0.1 : Int)), some (.int (e0.2.1 : Int)), some own, some oth, some (.ref la), z9, z10, z11, z12] ∧ Same (hide HL la) H' ∧ H' la = some (.dK lkvs) ∧ TabG kM K H' lkvs lt ∧ SF.LPart n e0 (t.take j) lt ∧ lt.length ≤ 2 * j)
    ⟨[], [], _, _, _, _, rfl, hide_same, hlaL, .nil, SF.LPart.start n e0, Nat.zero_le _⟩ (fun j σ' H' ⟨_, _, _, _, _, _, _, sm, _⟩ => sm) (fun j kv x σ' H' H'' hkv pv' e yd => ?_) (fun σ' H' pv' => ?_)
  · obtain ⟨lkvs, lt, z9, z10, z11, z12, rfl, sm, hl2, tb2, TP, ll⟩ := pv'
    obtain ⟨T', rfl, hT'⟩ := yd
    obtain ⟨x, hx, hk1, hk2⟩ := paired_get tbW hkv
    have xm : x ∈ t := List.mem_of_getElem? hx
    have sW := sm.trans e
    have jl : j < t.length := (List.getElem?_eq_some_iff.mp hx).1
    have kx := T.key x xm
    have nx1 := tsz_mem xm
    have ts1 := SF.tsz_take (fun _ => 1) t j
    have ts2 := TP.sz
    rw [hk1] at hT'
    refine ⟨T', _, rfl, .inl (.inl hT'), rfl, _, _, rfl, _, _, rfl, rfl, ?_⟩
    have p9 : (4 : Nat) ^ 9 = 262144 := by decide
    refine mask_step (m := x.1) (nu := x.2) (lt := lt) h6 hu hv kx (dp_same sW ownW) (dp_same sW othW) (dp_same sW hk2) (e _ _ hl2) (tb2.up (.of e)) TP.nd (by omega) (T.can x xm) (by omega) TP.can (by omega) fun H3 lkvs3 y11 y12 s3 hl3 tb3 => ?_
    refine ⟨lkvs3, _, _, _, _, _, rfl, (hide_of sW hide_self).trans s3, hl3, tb3, ?_, ?_⟩
    · rw [take_next hx]
      exact SF.LPart.step hu hv kx TP
    · have := lrow_len e0 lt (x.1, x.2)
      omega
  · obtain ⟨lkvs, lt, z9, z10, z11, z12, rfl, sm, hl2, tb2, TP, ll⟩ := pv'
    rw [Paired.length tbW, List.take_length] at TP
    have hsaE := sm _ _ hsaW
    refine ⟨hsaE, ?_⟩
    have uD : SameD H' (upd H' sa (.dK kvs)) := unlock_D hsaE rfl
    have laE : upd H' sa (.dK kvs) la = some (.dK lkvs) := by rw [upd_ne fsa.symm]; exact hl2
    refine ⟨_, rfl, ?_⟩
    refine nx (upd H' sa (.dK kvs)) la lkvs lt _ _ _ _ (fun b o hb => ?_) laE (tb2.up uD) (T.next he TP)
    by_cases z : b = sa
    · subst z
      rw [hsa] at hb
      rw [upd_same]; exact hb
    · rw [upd_ne z]
      have hla' : b ≠ la := fun y => by
        subst y
        rw [nla] at hb; cases hb
      exact sm _ _ (by rw [hide_ne hla']; exact ofL b o z (e3 _ _ hb))
theorem pure_even (vs : List V) (H : Hp) (Q : VK) (E : XK) (hsp : spEven K vs H Q E) : t_even K (DQ Q) (start nEven vs) H := by
  obtain ⟨a, b, c, n, es, rfl, h6, h10, hlt, ha, hb, hc, k⟩ := hsp
  refine q_set (P := fun u H' => ∃ p val, u = .ref p ∧ H' p = some (.dK [(kM 0, val)]) ∧ Dp K H' val (polyD [((0, 0), 1)])) (fun H5 e5 Q q p np => ?_) fun u H1 e1 p5 => ?_
  · unfold tPairs tC
    refine (evd_tup (K := K) (ds := [termD ((0, 0), 1)]) (ead_cons (evd_tup (ead_cons (evd_tup (ead_cons evd_int (ead_cons evd_int ead_nil)) (by show 2 ≤ sizeLine; decide)) (ead_cons evd_int ead_nil)) (by show 2 ≤ sizeLine; decide)) ead_nil) (by show 1 ≤ sizeLine; decide)).go fun y H6 e6 py => ?_
    have hp6 : H6 p = some (.dK []) := e6 _ _ upd_same
    have s6 : Same H5 H6 := (same_new np).trans e6
    exact ⟨hp6, [(kM 0, y)], rfl, by show 1 ≤ 15; decide, q _ _ (same_mut s6 np) ⟨p, y, rfl, upd_same, dp_sameD (.upd hp6 rfl) py⟩⟩
  obtain ⟨sa, val, rfl, hsa, hval⟩ := p5
  obtain ⟨aa, axs, rfl, ha1, ha2⟩ := dp_lst ha
  obtain ⟨ba, bxs, rfl, hb1, hb2⟩ := dp_lst hb
  obtain ⟨ca, cxs, rfl, hc1, hc2⟩ := dp_lst hc
  refine q_for (Hb := H) (l := es) (fun R r => ⟨_, rfl, _, rfl, _, rfl, aa, ba, ca, axs, bxs, cxs, rfl, sql_same e1 ha1, sql_same e1 hb1, sql_same e1 hc1, r⟩) (walkL_zip3 (K := K) ha1 ha2 hb1 hb2 hc1 hc2)
    (fun i σ' H' => ∃ sa t kvs o4 o5 o6 o7 o8 o9 o10 o11 o12, σ' = [some (.ref aa), some (.ref ba), some (.ref ca), some (.ref sa), o4, o5, o6, o7, o8, o9, o10, o11, o12] ∧ Same H H' ∧ H' sa = some (.dK kvs) ∧ TabG kM K H' kvs t ∧ SF.LInv n es i t)
    ⟨sa, [(0, [((0, 0), 1)])], [(kM 0, val)], _, _, _, _, _, _, _, _, _, rfl, e1, hsa, .cons ⟨rfl, hval⟩ .nil, SF.LInv.start n es⟩
    (fun i σ' H' ⟨_, _, _, _, _, _, _, _, _, _, _, _, _, sm, _⟩ => sm) (fun i e x σ' H' H'' he pv' e2 yd => ?_) (fun σ' H' pv' => ?_)
  · obtain ⟨sa, t, kvs, o4, o5, o6, o7, o8, o9, o10, o11, o12, rfl, sm, hsa, tb, T⟩ := pv'
    obtain ⟨Ta, x1, x2, x3, rfl, hT, d1, d2, d3⟩ := yd
    obtain ⟨pa, y1, y2, rfl, hp, q1, q2⟩ := dp_pair d1
    cases dp_int q1
    cases dp_int q2
    obtain ⟨lu, lv⟩ := hlt e (List.mem_of_getElem? he)
    have hi : i < es.length := (List.getElem?_eq_some_iff.mp he).1
    refine ⟨Ta, _, rfl, .inl (.inl hT), rfl, _, _, rfl, ⟨pa, _, rfl, hp, rfl, _, _, rfl, _, _, rfl, rfl, _, _, rfl, _, _, rfl, rfl, ?_⟩⟩
    refine turn_step h6 lu lv he (by omega) d2 d3 (e2 _ _ hsa) (tb.up (.of e2)) T fun H3 la lkvs lt z9 z10 z11 z12 s3 l3 t3 T3 => ?_
    exact ⟨la, lt, lkvs, _, _, _, _, _, _, _, _, _, rfl, (sm.trans e2).trans s3, l3, t3, T3⟩
  · obtain ⟨sa, t, kvs, o4, o5, o6, o7, o8, o9, o10, o11, o12, rfl, sm, hsa, tb, T⟩ := pv'
    refine s_end (Q := Q) (P := fun u H' => Dp K H' u (polyD (SF.tget t 0))) (fun H1 e1 Q1 q1 => ?_) fun u H' e hd => k u H' t (sm.trans e) T hd
    refine ⟨_, rfl, sa, rfl, .inl ⟨kvs, .inl (e1 _ _ hsa)⟩, by show 0 ≤ sizeLine; exact Nat.zero_le _, fun p np => ?_⟩
    have e2 : Same H1 (upd H1 p (.tup [])) := same_new np
    refine ⟨_, DGet.k (k := kM 0) (e2 _ _ (e1 _ _ hsa)), ?_⟩
    obtain ⟨g1, g2⟩ := TabG.get kM_inj tb 0
    cases hv : valV kvs (kM 0) with
    | none =>
      refine q1 _ _ e2 ?_
      rw [g2 hv]
      exact .tup (.inl (.inl upd_same)) .nil
    | some v => exact q1 _ _ e2 (dp_same (e1.trans e2) (g1 v hv))
end
end SFW

set_option maxRecDepth 100000
set_option maxHeartbeats 4000000
/-! # Loops: even_weights as a def, sum_by_loops -/
namespace SFW
open PySem PySem.Spec PyProof.Rows L2
open SF (Poly)
abbrev nLoops : List Str := ["spins", "inside", "outside", "total", "whole", "_", "coupling", "u", "v"]
theorem scLoops : FnScope nLoops ["spins"] (defScope sLoops) := ⟨rfl, rfl, rfl, by decide +kernel, rfl, by decide +kernel, by decide +kernel⟩
theorem nrm_ones {α : Type} (l : List α) (f : α → Int × Int) : SF.nrm (l.map fun a => (f a, 1)) = l.length := by
  induction l with
  | nil => rfl
  | cons a r ih => simp only [List.map_cons, SF.nrm, List.length_cons] at ih ⊢; omega
section
variable {P : Program} {w : World} {K : PySem.W.Frag} {mg : Str → Option Value} {base : Heap} {C CH : Addr}
theorem ok_even {f fE fL fT : Addr} {fd fdE fdL fdT : FuncData} (F : Fun K "even_weights" "even_weights" sEven f fd) (mz : mg "zip" = none)
    (GE : FnOk P w K mg base CX0 1 fE fdE ["u", "v"] (spD K domEnds)) (gE : mg "ends_mask" = some (.ref fE)) (kE : PySem.W.keepIn K (.ref fE) = true) (bE : Binds K fdE ["u", "v"] [])
    (GL : FnOk P w K mg base CX0 3 fL fdL ["p", "q"] (spD K domPlus)) (gL : mg "plus" = some (.ref fL)) (kL : PySem.W.keepIn K (.ref fL) = true) (bL : Binds K fdL ["p", "q"] [])
    (GT : FnOk P w K mg base CX0 2 fT fdT ["p", "q"] (spD K domTimes)) (gT : mg "times" = some (.ref fT)) (kT : PySem.W.keepIn K (.ref fT) = true) (bT : Binds K fdT ["p", "q"] []) :
    FnOk P w K mg base CX0 4 f fd ["edges", "inside", "outside"] (spEven K) := by
  refine F.ok scEven (fun vs H Q E h => ?_) (fun cdv A outer s H vs Q E hr h => ⟨t_even K, ?_, pure_even vs H Q E h⟩)
  · obtain ⟨a, b, c, n, es, rfl, _⟩ := h; rfl
  · have hu := hu_of hr
    have hr1 : Room 1 _ := hr.mono (by decide)
    have hr2 : Room 2 _ := hr.mono (by decide)
    exact pss_cons (ps_set (i := 3) scEven.nd rfl (.inl rfl) (by exact (pe_disp (pps_cons pe_int (pe_tup (pa_cons (pe_tup (pa_cons (pe_tup (pa_cons pe_int (pa_cons pe_int pa_nil))) (pa_cons pe_int pa_nil))) pa_nil)) pps_nil) rfl rfl (by simp) (by decide))))
      (pss_cons (ps_for PassesOwn.never rfl (by exact (pi_zip3 (by rfl) mz (pa_cons (pv 0) (pa_cons (pv 1) (pa_cons (pv 2) pa_nil))))) (by exact (pg_tup rfl (pgs_cons (pg_tup rfl (pgs_cons (pg_name (i := 4) scEven.nd rfl (.inl rfl)) (pgs_cons (pg_name (i := 5) scEven.nd rfl (.inl rfl)) pgs_nil))) (pgs_cons (pg_name (i := 6) scEven.nd rfl (.inl rfl)) (pgs_cons (pg_name (i := 7) scEven.nd rfl (.inl rfl)) pgs_nil)))))
        (pss_cons (ps_set (i := 8) scEven.nd rfl (.inl rfl) pe_dnewK)
        (pss_cons (ps_lock (ps_for PassesOwn.never rfl (by exact (pi_items (pv 3))) (by exact (pg_tup rfl (pgs_cons (pg_name (i := 9) scEven.nd rfl (.inl rfl)) (pgs_cons (pg_name (i := 10) scEven.nd rfl (.inl rfl)) pgs_nil))))
          (pss_one (ps_for PassesOwn.never rfl (by exact (pi_tup (pe_tup (pa_cons (pe_tup (pa_cons (pv 9) (pa_cons (pv 7) pa_nil))) (pa_cons (pe_tup (pa_cons (pe_op op_xor (pv 9) (pe_call GE hr1 rfl gE kE bE .nil pass0 (pa_cons (pv 4) (pa_cons (pv 5) pa_nil)))) (pa_cons (pv 6) pa_nil))) pa_nil)))))
              (by exact (pg_tup rfl (pgs_cons (pg_name (i := 11) scEven.nd rfl (.inl rfl)) (pgs_cons (pg_name (i := 12) scEven.nd rfl (.inl rfl)) pgs_nil))))
            (pss_one (ps_dput hu (pv 8) (pv 11) (by exact (pe_call GL hr rfl gL kL bL .nil pass0 (pa_cons (pe_dget2 hu (pv 8) (pv 11) (pe_tup pa_nil) ⟨rfl, rfl, rfl, rfl⟩) (pa_cons (pe_call GT hr2 rfl gT kT bT .nil pass0 (pa_cons (pv 10) (pa_cons (pv 12) pa_nil))) pa_nil)))) rfl))))))
        (pss_one (ps_set (i := 3) scEven.nd rfl (.inl rfl) (pv 8))))))
      (pss_one (ps_ret (by exact (pe_dget2 hu (pv 3) pe_int (pe_tup pa_nil) ⟨rfl, rfl, rfl, rfl⟩)))))
def spLoops (K : PySem.W.Frag) (C CH : Addr) : Sp := fun vs H Q E => ∃ (v : V) (h : List Int) (es : List SF.Edge), vs = [v] ∧ SpinsAt K C H v h es ∧ SF.Wf h es ∧
  ((∀ x ∈ h, x = 0) → ∀ u H', Same H H' → Dp K H' u (polyD (SF.F0 h.length es)) → Q u H') ∧ (¬ (∀ x ∈ h, x = 0) → ∀ H', Same H H' → E (.ref CH) none H')
theorem ok_loops {f fC fP fW fT fS : Addr} {fd fdC fdP fdW fdT fdS : FuncData} (F : Fun K "sum_by_loops" "sum_by_loops" sLoops f fd) (T : SpinTxt K C) (ml : mg "len" = none)
    (GC : FnOk P w K mg base (L2.CX P w) 1 fC fdC ["spins"] (spCheck K C CH)) (gC : mg "check_no_field" = some (.ref fC)) (kC : PySem.W.keepIn K (.ref fC) = true) (bC : Binds K fdC ["spins"] [])
    (GP : FnOk P w K mg base CX0 2 fP fdP ["terms"] (spD K domPoly)) (gP : mg "polynomial" = some (.ref fP)) (kP : PySem.W.keepIn K (.ref fP) = true) (bP : Binds K fdP ["terms"] [])
    (GW : FnOk P w K mg base CX0 4 fW fdW ["edges", "inside", "outside"] (spEven K)) (gW : mg "even_weights" = some (.ref fW)) (kW : PySem.W.keepIn K (.ref fW) = true) (bW : Binds K fdW ["edges", "inside", "outside"] [])
    (GT : FnOk P w K mg base CX0 2 fT fdT ["p", "q"] (spD K domTimes)) (gT : mg "times" = some (.ref fT)) (kT : PySem.W.keepIn K (.ref fT) = true) (bT : Binds K fdT ["p", "q"] [])
    (GS : FnOk P w K mg base CX0 1 fS fdS ["p", "divisor"] (spD K domShared)) (gS : mg "shared" = some (.ref fS)) (kS : PySem.W.keepIn K (.ref fS) = true) (bS : Binds K fdS ["p", "divisor"] []) :
    FnOk P w K mg base (L2.CX P w) 5 f fd ["spins"] (spLoops K C CH) := by
  refine F.okX scLoops (fun vs H Q E h => ?_) (fun cdv A outer s H vs Q E hr h => ?_)
  · obtain ⟨v, h, es, rfl, _⟩ := h; rfl
  · obtain ⟨v, h, es, rfl, S, wf, k1, k2⟩ := h
    have hr1 : Room (0 + 1) _ := hr.mono (by decide)
    have hr2 : Room 2 _ := hr.mono (by decide)
    refine ⟨_, pss_cons (ps_expr (by exact (pe_callS (E := WE fun cls d _ H => E cls d H) GC hr1 rfl gC kC bC (passAt (takes_of rfl rfl rfl rfl)) (pa_cons (pv 0) pa_nil))))
      (pss_cons (ps_setLc (i := 1) (own := [("_", 5), ("coupling", 6)]) (g := gTup K 3 (gCons (gName 5) (gCons (gName 5) (gCons (gName 6) gNil)))) (tt := tYes)
          (te := tCall (spD K domPoly) [] E0 (tCons (tLst (tCons (tTup (tCons (tTup (tCons (tC (.int 0)) (tCons (tC (.int 0)) tNil))) (tCons (tC (.int 1)) tNil))) (tCons (tTup (tCons (tTup (tCons (tVar 6) (tCons (tC (.int 0)) tNil))) (tCons (tUn (rU fun i => .int (-i)) (tC (.int 1))) tNil))) tNil))) tNil))
          rfl scLoops.nd rfl rfl (sw_true rfl rfl rfl (by decide +kernel)) (pi_tup (pe_fld (pv 0) rfl)) (blkOk_by (N := nLoops) (sc := defScope sLoops) (by decide +kernel))
          (fun _ _ _ _ _ => pg_tup rfl (pgs_cons (pg_name (i := 5) scLoops.nd rfl (.inl rfl)) (pgs_cons (pg_name (i := 5) scLoops.nd rfl (.inl rfl)) (pgs_cons (pg_name (i := 6) scLoops.nd rfl (.inl rfl)) pgs_nil)))) (fun _ _ _ _ _ => pts_nil)
          (fun _ _ _ _ _ => by exact (pe_call GP hr2 rfl gP kP bP .nil pass0 (pa_cons (pe_lst (pa_cons (pe_tup (pa_cons (pe_tup (pa_cons pe_int (pa_cons pe_int pa_nil))) (pa_cons pe_int pa_nil)))
            (pa_cons (pe_tup (pa_cons (pe_tup (pa_cons (pv 6) (pa_cons pe_int pa_nil))) (pa_cons (pe_un un_neg pe_int) pa_nil))) pa_nil))) pa_nil))))
      (pss_cons (ps_setLc (i := 2) (own := [("_", 5), ("coupling", 6)]) (g := gTup K 3 (gCons (gName 5) (gCons (gName 5) (gCons (gName 6) gNil)))) (tt := tYes)
          (te := tCall (spD K domPoly) [] E0 (tCons (tLst (tCons (tTup (tCons (tTup (tCons (tC (.int 0)) (tCons (tC (.int 0)) tNil))) (tCons (tC (.int 1)) tNil))) (tCons (tTup (tCons (tTup (tCons (tVar 6) (tCons (tC (.int 0)) tNil))) (tCons (tC (.int 1)) tNil))) tNil))) tNil))
          rfl scLoops.nd rfl rfl (sw_true rfl rfl rfl (by decide +kernel)) (pi_tup (pe_fld (pv 0) rfl)) (blkOk_by (N := nLoops) (sc := defScope sLoops) (by decide +kernel))
          (fun _ _ _ _ _ => pg_tup rfl (pgs_cons (pg_name (i := 5) scLoops.nd rfl (.inl rfl)) (pgs_cons (pg_name (i := 5) scLoops.nd rfl (.inl rfl)) (pgs_cons (pg_name (i := 6) scLoops.nd rfl (.inl rfl)) pgs_nil)))) (fun _ _ _ _ _ => pts_nil)
          (fun _ _ _ _ _ => by exact (pe_call GP hr2 rfl gP kP bP .nil pass0 (pa_cons (pe_lst (pa_cons (pe_tup (pa_cons (pe_tup (pa_cons pe_int (pa_cons pe_int pa_nil))) (pa_cons pe_int pa_nil)))
            (pa_cons (pe_tup (pa_cons (pe_tup (pa_cons (pv 6) (pa_cons pe_int pa_nil))) (pa_cons pe_int pa_nil))) pa_nil))) pa_nil))))
      (pss_cons (ps_set (i := 3) scLoops.nd rfl (.inl rfl) (by exact (pe_call GW hr rfl gW kW bW .nil pass0 (pa_cons (pe_lc (own := [("u", 7), ("v", 8), ("_", 5)]) (g := gTup K 3 (gCons (gName 7) (gCons (gName 8) (gCons (gName 5) gNil)))) (tt := tYes) (te := tTup (tCons (tVar 7) (tCons (tVar 8) tNil))) rfl scLoops.nd (pi_tup (pe_fld (pv 0) rfl)) (blkOk_by (N := nLoops) (sc := defScope sLoops) (by decide +kernel))
          (fun _ _ _ _ _ => pg_tup rfl (pgs_cons (pg_name (i := 7) scLoops.nd rfl (.inl rfl)) (pgs_cons (pg_name (i := 8) scLoops.nd rfl (.inl rfl)) (pgs_cons (pg_name (i := 5) scLoops.nd rfl (.inl rfl)) pgs_nil)))) (fun _ _ _ _ _ => pts_nil) (fun _ _ _ _ _ => pe_tup (pa_cons (pv 7) (pa_cons (pv 8) pa_nil)))) (pa_cons (pv 1) (pa_cons (pv 2) pa_nil))))))
      (pss_cons (ps_set (i := 4) scLoops.nd rfl (.inl rfl) (by exact (pe_call GT hr2 rfl gT kT bT .nil pass0 (pa_cons (pv 3) (pa_cons (pe_tup (pa_cons (pe_tup (pa_cons (pe_tup (pa_cons pe_int (pa_cons pe_int pa_nil))) (pa_cons (pe_op op_shl pe_int (pe_callB call_len_seq (by rfl) ml b_len (pa_cons (pe_fld (pv 0) rfl) pa_nil))) pa_nil))) pa_nil)) pa_nil)))))
      (pss_one (ps_ret (by exact (pe_call GS hr1 rfl gS kS bS .nil pass0 (pa_cons (pv 4) (pa_cons (pe_op op_shl pe_int (pe_callB call_len_seq (by rfl) ml b_len (pa_cons (pe_fld (pv 0) rfl) pa_nil))) pa_nil)))))))))), ?_⟩
    by_cases hz : ∀ x ∈ h, x = 0
    · refine (show EvP (tCallS (spCheck K C CH) (WE fun cls d _ H => E cls d H) (tCons (tVar 0) tNil)) (start nLoops [v]) H (fun _ _ => True) from fun H1 e1 Q q => ⟨_, rfl, ⟨v, h, es, rfl, S.same e1, wf.hi, fun _ H2 e2 => q _ H2 e2 True.intro, fun n => absurd hz n⟩⟩).go fun _ H1 e1 _ => ?_
      have few := wf.few
      have hi := wf.hi
      have e10 : es.length < sizeLine := by rw [sizeLine_eq]; omega
      refine q_set (σ := start nLoops [v]) (evd_lcA (K := K) (l := es) (src_tup (evd_edges (σ := start nLoops [v]) (i := 0) T rfl (S.same e1))).map e10 (fun e => polyD (SF.inP e.2.2)) (fun _ => noL_poly _) fun t x H' ht e yd R kk => ?_) fun iv H2 e2 hin => ?_
      · obtain ⟨pa, xu, xv, xj, rfl, q1, q2, q3, q4⟩ := dp_triple yd
        cases dp_int q2
        cases dp_int q3
        cases dp_int q4
        refine ⟨pa, _, rfl, q1, rfl, _, _, rfl, _, _, rfl, _, _, rfl, rfl, ?_⟩
        exact kk _ rfl (evd_call (K := K) (dom := domPoly) (d := polyD (SF.inP t.2.2)) (ds := [.list ([((0, 0), 1), ((t.2.2, 0), -1)].map termD)]) (ead_cons (evd_lst (ead_cons (evd_tup (ead_cons (evd_tup (ead_cons evd_int (ead_cons evd_int ead_nil)) (by show 2 ≤ sizeLine; decide)) (ead_cons evd_int ead_nil)) (by show 2 ≤ sizeLine; decide))
          (ead_cons (evd_tup (ead_cons (evd_tup (ead_cons (evv_d (evv_var rfl)) (ead_cons evd_int ead_nil)) (by show 2 ≤ sizeLine; decide)) (ead_cons (evv_d (evv_neg evv_c)) ead_nil)) (by show 2 ≤ sizeLine; decide)) ead_nil)) (by show 2 ≤ sizeLine; decide)) ead_nil) ⟨_, .inl rfl, by show 2 < sizeLine; decide, rfl⟩)
      have e02 := e1.trans e2
      refine q_set (σ := (start nLoops [v]).set 1 (some iv)) (evd_lcA (K := K) (l := es) (src_tup (evd_edges (i := 0) T rfl (S.same e02))).map e10 (fun e => polyD (SF.outP e.2.2)) (fun _ => noL_poly _) fun t x H' ht e yd R kk => ?_) fun ov H3 e3 hout => ?_
      · obtain ⟨pa, xu, xv, xj, rfl, q1, q2, q3, q4⟩ := dp_triple yd
        cases dp_int q2
        cases dp_int q3
        cases dp_int q4
        refine ⟨pa, _, rfl, q1, rfl, _, _, rfl, _, _, rfl, _, _, rfl, rfl, ?_⟩
        exact kk _ rfl (evd_call (K := K) (dom := domPoly) (d := polyD (SF.outP t.2.2)) (ds := [.list ([((0, 0), 1), ((t.2.2, 0), 1)].map termD)]) (ead_cons (evd_lst (ead_cons (evd_tup (ead_cons (evd_tup (ead_cons evd_int (ead_cons evd_int ead_nil)) (by show 2 ≤ sizeLine; decide)) (ead_cons evd_int ead_nil)) (by show 2 ≤ sizeLine; decide))
          (ead_cons (evd_tup (ead_cons (evd_tup (ead_cons (evv_d (evv_var rfl)) (ead_cons evd_int ead_nil)) (by show 2 ≤ sizeLine; decide)) (ead_cons evd_int ead_nil)) (by show 2 ≤ sizeLine; decide)) ead_nil)) (by show 2 ≤ sizeLine; decide)) ead_nil) ⟨_, .inl rfl, by show 2 < sizeLine; decide, rfl⟩)
      have e03 := e02.trans e3
      refine q_set (σ := ((start nLoops [v]).set 1 (some iv)).set 2 (some ov)) (P := fun u H' => ∃ t, SF.LInv h.length es es.length t ∧ Dp K H' u (polyD (SF.tget t 0))) (evp_call (PA := fun vs H' => DpAll K H' vs [.list (es.map pairD), .list (es.map fun (e : SF.Edge) => polyD (SF.inP e.2.2)), .list (es.map fun (e : SF.Edge) => polyD (SF.outP e.2.2))])
        (ead_cons (evd_lcA (K := K) (l := es) (src_tup (evd_edges (σ := ((start nLoops [v]).set 1 (some iv)).set 2 (some ov)) (i := 0) T rfl (S.same e03))).map e10 pairD (fun _ => rfl) fun t x H' ht e yd R kk => ?_) (ead_cons (evd_var (i := 1) rfl (dp_same e3 hin)) (ead_cons (evd_var (i := 2) rfl hout) ead_nil))) fun vs H4 e4 p4 Q q => ?_) fun tv H4 e4 p4 => ?_
      · obtain ⟨pa, xu, xv, xj, rfl, q1, q2, q3, q4⟩ := dp_triple yd
        cases dp_int q2
        cases dp_int q3
        cases dp_int q4
        refine ⟨pa, _, rfl, q1, rfl, _, _, rfl, _, _, rfl, _, _, rfl, rfl, ?_⟩
        exact kk _ rfl (evd_tup (K := K) (ead_cons (evv_d (evv_var rfl)) (ead_cons (evv_d (evv_var rfl)) ead_nil)) (by show 2 ≤ sizeLine; decide))
      · obtain ⟨a, b, c, rfl, d1, d2, d3⟩ := dpa_three p4
        exact ⟨a, b, c, h.length, es, rfl, hi, few, fun e he => by have := wf.lt e he; omega, d1, d2, d3, fun u H' t e L hd => q u H' e ⟨t, L, hd⟩⟩
      obtain ⟨t, L, htv⟩ := p4
      have e04 := e03.trans e4
      have shv : ∀ n : Nat, n ≤ 10 → (1 : Int) * 2 ^ ((n : Int)).toNat = 2 ^ n := fun n _ => by simp
      have lw := SF.loops_whole L
      have f0 : (SF.F0 h.length es).length ≤ 64 := by
        have h1 := (SF.F0_canon h.length es).len
        have h2 : SF.nrm (SF.F0 h.length es) ≤ SF.nrm ((SF.states h.length).map fun s => ((SF.cst0 es s, (0 : Int)), (1 : Int))) := SF.nrm_cf _
        rw [nrm_ones (SF.states h.length) (fun s => (SF.cst0 es s, (0 : Int))), SF.states_len] at h2
        have h3 : 2 ^ h.length ≤ 64 := Nat.le_trans (Nat.pow_le_pow_right (by omega) hi) (by decide)
        omega
      refine q_set (σ := (((start nLoops [v]).set 1 (some iv)).set 2 (some ov)).set 3 (some tv)) (evd_call (K := K) (dom := domTimes) (d := polyD (SF.scale (2 ^ es.length) (SF.F0 h.length es))) (ds := [polyD (SF.tget t 0), polyD [((0, 0), 2 ^ h.length)]]) (ead_cons (evd_var (i := 3) rfl htv) (ead_cons (evd_tup (ead_cons (evd_tup (ead_cons (evd_tup (ead_cons evd_int (ead_cons evd_int ead_nil)) (by show 2 ≤ sizeLine; decide)) (ead_cons (evv_d (i := 2 ^ h.length) ((evv_shl evv_c (evv_lenT (evd_fields (i := 0) T rfl (S.same e04))) ?_).vis ?_)) ead_nil)) (by show 2 ≤ sizeLine; decide)) ead_nil) (by show 1 ≤ sizeLine; decide)) ead_nil)) ?_) fun wv H5 e5 hw => ?_
      · rw [List.length_map]; exact ⟨by omega, by omega, by omega⟩
      · rw [List.length_map, shv _ (by omega)]
      · rw [← lw]
        exact domTimes_of (tget_can L.can 0) (Nat.le_trans L.len (Nat.le_trans (Nat.pow_le_pow_right (by omega) few) (by decide))) (by show 1 ≤ 2; decide)
      · have e05 := e04.trans e5
        refine s_end (Q := Q) (evd_call (K := K) (dom := domShared) (d := polyD (SF.F0 h.length es)) (ds := [polyD (SF.scale (2 ^ es.length) (SF.F0 h.length es)), .int (2 ^ es.length)]) (ead_cons (evd_var (i := 4) rfl hw) (ead_cons (evv_d ((evv_shl evv_c (evv_lenT (evd_edges (i := 0) T rfl (S.same e05))) ?_).vis ?_)) ead_nil)) ?_) fun u H' e hd => k1 hz u H' (e05.trans e) hd
        · rw [List.length_map]; exact ⟨by omega, by omega, by omega⟩
        · rw [List.length_map, shv _ (by omega)]
        · have : (2 : Nat) ^ es.length ≤ 2 ^ 10 := Nat.pow_le_pow_right (by omega) few
          have h2 : ((2 : Int) ^ es.length) = ((2 ^ es.length : Nat) : Int) := by simp
          have h3 : 0 < (2 : Nat) ^ es.length := Nat.pow_pos (by omega)
          exact ⟨_, _, by rw [h2]; omega, by rw [h2]; omega, by rw [sizeLine_eq]; omega, rfl, rfl⟩
    · exact ⟨_, rfl, ⟨v, h, es, rfl, S, wf.hi, fun n => absurd n hz, fun _ H2 e2 => k2 hz H2 e2⟩⟩
end
end SFW

set_option maxRecDepth 100000
set_option maxHeartbeats 4000000
/-! # The law's own small defs: cell, mix, row -/
namespace SFW
open PySem PySem.Spec PyProof.Rows L2
open SF (Poly)
abbrev sCell : Stmt := topS 41
abbrev sMix : Stmt := topS 42
abbrev sRow : Stmt := topS 43
theorem b_range : bootBuiltins "range" = some (.type "range") := by decide +kernel
theorem scCell : FnScope ["_law_script", "_law_k"] ["_law_script", "_law_k"] (defScope sCell) := ⟨rfl, rfl, rfl, by decide +kernel, rfl, by decide +kernel, by decide +kernel⟩
abbrev nMix : List Str := ["_law_cell_here", "_law_k", "_law_number"]
theorem scMix : FnScope nMix ["_law_cell_here", "_law_k"] (defScope sMix) := ⟨rfl, rfl, rfl, by decide +kernel, rfl, by decide +kernel, by decide +kernel⟩
abbrev nRow : List Str := ["_law_cell_here", "_law_count", "_law_bound", "_law_found", "_law_rest", "_law_k"]
theorem scRow : FnScope nRow ["_law_cell_here", "_law_count", "_law_bound"] (defScope sRow) := ⟨rfl, rfl, rfl, by decide +kernel, rfl, by decide +kernel, by decide +kernel⟩
abbrev rInt1 : List V → Hp → VK → Prop := fun xs H Q => (∃ i, xs = [.int i] ∧ Q (.int i) H) ∨ ∃ k, xs = [.bl k] ∧ Q (.int (if k then 1 else 0)) H
section
variable {P : Program} {w : World} {K : PySem.W.Frag} {mg : Str → Option Value} {base : Heap} {C CH : Addr} {te : TE} {σ : L2.St} {H : Hp}
theorem evv_int {i : Int} (h : EvV te σ H (.int i)) : EvV (tCB rInt1 (tCons te tNil)) σ H (.int i) := evp_cb (PA := fun vs _ => vs = [.int i]) (eap_cons h fun v H1 e1 p1 => eap_nil fun H2 e2 => by rw [p1]) fun vs H1 e1 p1 Q q => .inl ⟨i, p1, q _ _ (Same.refl _) rfl⟩
def spCell (K : PySem.W.Frag) : Sp := fun vs H Q _ => ∃ (v : V) (ns : List Int) (k : Nat), vs = [v, .int (k : Int)] ∧ Dp K H v (.list (ns.map PyData.int)) ∧ ∀ (z : Int) H', Same H H' → Q (.int z) H'
theorem ok_cell {f : Addr} {fd : FuncData} (F : Fun K "_law_cell" "_law_cell" sCell f fd) (ml : mg "len" = none) (mi : mg "int" = none) : FnOk P w K mg base CX0 1 f fd ["_law_script", "_law_k"] (spCell K) := by
  refine F.ok scCell (fun vs H Q E h => ?_) (fun cdv A outer s H vs Q E hr h => ?_)
  · obtain ⟨v, ns, k, rfl, _⟩ := h; rfl
  · obtain ⟨v, ns, k, rfl, hv, q⟩ := h
    refine ⟨_, pss_cons (ps_if (pt_cmpR op_lt (pv 1) (pe_callB call_len_seq (by rfl) ml b_len (pa_cons (pv 0) pa_nil)) (nomark _)) (pss_one (ps_ret (pe_callTy call_int1 (by rfl) mi b_int (pa_cons (pe_ix ix_list (pv 0) (pv 1) (fun _ _ => rfl)) pa_nil)))) pss_nil) (pss_one (ps_ret pe_int)), ?_⟩
    refine q_when (evb_test (evv_lt (evv_var rfl) (evv_lenL (evd_var rfl hv)))) (fun hb H1 e1 => ?_) (fun _ H1 e1 => ?_)
    · have hk : k < ns.length := by
        have := of_decide_eq_true hb
        rw [List.length_map] at this
        omega
      refine s_ret (evv_int (evd_v (evd_ixL (i := k) (evd_var rfl (dp_same e1 hv)) (evv_var rfl) (ints_at (List.getElem?_eq_getElem hk))))) fun v H2 e2 p2 => ?_
      subst p2
      exact q _ _ (e1.trans e2)
    · exact s_end (Q := Q) (evv_c (v := .int 0)) fun v H2 e2 p2 => by subst p2; exact q _ _ (e1.trans e2)
def spMix : Sp := fun vs H Q _ => ∃ (c k : Int), vs = [.int c, .int k] ∧ ∀ (z : Int) H', Same H H' → Q (.int z) H'
theorem ok_mix {f : Addr} {fd : FuncData} (F : Fun K "_law_mix" "_law_mix" sMix f fd) (mi : mg "int" = none) : FnOk P w K mg base CX0 1 f fd ["_law_cell_here", "_law_k"] spMix := by
  refine F.ok scMix (fun vs H Q E h => ?_) (fun cdv A outer s H vs Q E hr h => ?_)
  · obtain ⟨c, k, rfl, _⟩ := h; rfl
  · obtain ⟨c, k, rfl, q⟩ := h
    refine ⟨_, pss_cons (ps_set (i := 2) scMix.nd rfl (.inl rfl) (pe_op op_mod (pe_callTy call_int1 (by rfl) mi b_int (pa_cons (pe_op op_add (pe_op op_add (pe_op op_mul (pv 0) pe_int) (pe_op op_mul (pv 1) pe_int)) pe_int) pa_nil)) pe_int))
      (pss_cons (ps_set (i := 2) scMix.nd rfl (.inl rfl) (pe_op op_mod (pe_callTy call_int1 (by rfl) mi b_int (pa_cons (pe_op op_add (pe_op op_add (pe_op op_mul (pv 2) pe_int) (pe_op op_mul (pv 1) pe_int)) pe_int) pa_nil)) pe_int))
      (pss_one (ps_ret (pe_op op_fdiv (pv 2) pe_int)))), ?_⟩
    refine q_set (evv_mod (evv_int (evv_add (evv_add (evv_mul (evv_var rfl) evv_c (.inr ⟨by decide, by decide⟩)) (evv_mul (evv_var rfl) evv_c (.inr ⟨by decide, by decide⟩))) evv_c)) evv_c (by decide)) fun v H1 e1 p1 => ?_
    subst p1
    refine q_set (evv_mod (evv_int (evv_add (evv_add (evv_mul (evv_var rfl) evv_c (.inr ⟨by decide, by decide⟩)) (evv_mul (evv_var rfl) evv_c (.inr ⟨by decide, by decide⟩))) evv_c)) evv_c (by decide)) fun v H2 e2 p2 => ?_
    subst p2
    exact s_end (Q := Q) (evv_fdiv (evv_var rfl) evv_c ⟨by decide, by decide⟩) fun v H3 e3 p3 => by subst p3; exact q _ _ ((e1.trans e2).trans e3)
def spRow (K : PySem.W.Frag) : Sp := fun vs H Q _ => ∃ (c : Int) (n : Nat) (b : Int), vs = [.int c, .int (n : Int), .int b] ∧ n ≤ 60 ∧ 0 < b ∧ b < 1073741824 ∧ ∀ a H' (ds : List Int), Same H H' → H a = none → Dp K H' (.ref a) (.list (ds.map PyData.int)) → ds.length = n → (∀ d ∈ ds, 0 ≤ d ∧ d < b) → Q (.ref a) H'
theorem ok_row {f fM : Addr} {fd fdM : FuncData} (F : Fun K "_law_row" "_law_row" sRow f fd) (ma : mg "abs" = none) (mr : mg "range" = none) (mi : mg "int" = none)
    (GM : FnOk P w K mg base CX0 1 fM fdM ["_law_cell_here", "_law_k"] spMix) (gM : mg "_law_mix" = some (.ref fM)) (kM : PySem.W.keepIn K (.ref fM) = true) (bM : Binds K fdM ["_law_cell_here", "_law_k"] []) :
    FnOk P w K mg base CX0 2 f fd ["_law_cell_here", "_law_count", "_law_bound"] (spRow K) := by
  refine F.ok scRow (fun vs H Q E h => ?_) (fun cdv A outer s H vs Q E hr h => ?_)
  · obtain ⟨c, n, b, rfl, _⟩ := h; rfl
  · obtain ⟨c, n, b, rfl, h60, b0, b1, q⟩ := h
    refine ⟨_, pss_cons (ps_set (i := 3) scRow.nd rfl (.inl rfl) (pe_lst pa_nil)) (pss_cons (ps_set (i := 4) scRow.nd rfl (.inl rfl) (pe_callB call_abs (by rfl) ma b_abs (pa_cons (pv 0) pa_nil)))
      (pss_cons (ps_for PassesOwn.never rfl (by exact (pi_range1 (by rfl) mr (pa_cons (pv 1) pa_nil))) (pg_name (i := 5) scRow.nd rfl (.inl rfl))
        (pss_one (ps_if (pt_cmpR op_ge (pe_callB call_abs (by rfl) ma b_abs (pa_cons (pv 0) pa_nil)) pe_int (nomark _))
          (pss_cons (ps_expr (by exact (pe_bm PySem.F.plainAttrs_list PySem.F.slot_list_append PySem.F.type_list_append mt_append (pv 3) (pa_cons (pe_op op_mod (pe_callTy call_int1 (by rfl) mi b_int (pa_cons (pv 4) pa_nil)) (pv 2)) pa_nil))))
            (pss_one (ps_set (i := 4) scRow.nd rfl (.inl rfl) (pe_op op_fdiv (pv 4) (pv 2)))))
          (pss_one (ps_expr (by exact (pe_bm PySem.F.plainAttrs_list PySem.F.slot_list_append PySem.F.type_list_append mt_append (pv 3) (pa_cons (pe_op op_mod (pe_callTy call_int1 (by rfl) mi b_int (pa_cons (pe_call GM hr rfl gM kM bM .nil pass0 (pa_cons (pv 0) (pa_cons (pv 5) pa_nil))) pa_nil)) (pv 2)) pa_nil))))))))
      (pss_one (ps_ret (pv 3))))), ?_⟩
    refine q_set (evp_lstN (K := K) (ds := []) ead_nil (Nat.zero_le _)) fun u H1 e1 p1 => ?_
    obtain ⟨a, x0, rfl, na, ha, hx⟩ := p1
    cases dpa_nil hx
    refine q_set (evv_abs (evv_var rfl)) fun v H2 e2 p2 => ?_
    subst p2
    refine q_forR (evv_var rfl) (by omega) (fun i σ' H' => ∃ (r : Int) (y5 : Option V) (ds : List Int), σ' = [some (.int c), some (.int (n : Int)), some (.int b), some (.ref a), some (.int r), y5] ∧ Same H H' ∧ H' a = some (.lst (ds.map V.int)) ∧ ds.length = i ∧ ∀ d ∈ ds, 0 ≤ d ∧ d < b)
      (fun H3 e3 => ⟨_, _, [], rfl, (e1.trans e2).trans e3, e3 _ _ (e2 _ _ ha), rfl, fun d hd => nomatch hd⟩) (fun i σ' H' hi pv' => ?_) (fun σ' H' pv' => ?_)
    · obtain ⟨r, y5, ds, rfl, sm, hl, len, hb⟩ := pv'
      have add : ∀ (z : Int) (H4 : Hp), Same H' H4 → Same H (upd H4 a (.lst (ds.map V.int ++ [.int (z % b)]))) ∧ upd H4 a (.lst (ds.map V.int ++ [.int (z % b)])) a = some (.lst ((ds ++ [z % b]).map V.int)) ∧ (ds ++ [z % b]).length = i + 1 ∧ ∀ d ∈ ds ++ [z % b], 0 ≤ d ∧ d < b := fun z H4 e4 => by
        refine ⟨same_mut (sm.trans e4) na, by rw [upd_same, List.map_append]; rfl, by rw [List.length_append, len]; rfl, fun d hd => ?_⟩
        rcases List.mem_append.mp hd with y | y
        · exact hb d y
        · have : d = z % b := by simpa using y
          subst this
          exact ⟨Int.emod_nonneg _ (by omega), Int.emod_lt_of_pos _ b0⟩
      refine s_if (evb_test (evv_ge (evv_abs (evv_var rfl)) evv_c)) (fun _ H3 e3 => ?_) (fun _ H3 e3 => ?_)
      · refine ⟨_, rfl, .inl ⟨rfl, _, .inl (.inl (e3 _ _ hl))⟩, ?_⟩
        refine (evv_mod (evv_int (evv_var rfl)) (evv_var rfl) b0).go fun v H4 e4 p4 => ?_
        subst p4
        refine ⟨a, _, _, rfl, rfl, e4 _ _ (e3 _ _ hl), by rw [List.length_map, len, sizeLine_eq]; omega, ?_⟩
        obtain ⟨g1, g2, g3, g4⟩ := add r H4 (e3.trans e4)
        refine s_set (evv_fdiv (evv_var rfl) (evv_var rfl) ⟨b0, b1⟩) fun v H5 e5 p5 => ?_
        subst p5
        exact ⟨_, _, _, rfl, g1.trans e5, e5 _ _ g2, g3, g4⟩
      · refine ⟨_, rfl, .inl ⟨rfl, _, .inl (.inl (e3 _ _ hl))⟩, ?_⟩
        refine (show EvP (tOp (rI (fun _ j => 0 < j) fun i j => .int (i % j)) (tCB rInt1 (tCons (tCall spMix [] E0 (tCons (tVar 0) (tCons (tVar 5) tNil))) tNil)) (tVar 2)) [some (.int c), some (.int (n : Int)), some (.int b), some (.ref a), some (.int r), some (.int (i : Int))] H3 (fun v _ => ∃ z, v = .int (z % b)) from fun H4 e4 Q4 q4 => ?_).go fun v H4 e4 p4 => ?_
        · refine ⟨_, rfl, _, rfl, c, (i : Int), rfl, fun z H5 e5 => .inl ⟨z, rfl, ⟨_, rfl, z, b, rfl, rfl, b0, q4 _ _ e5 ⟨z, rfl⟩⟩⟩⟩
        · obtain ⟨z, rfl⟩ := p4
          refine ⟨a, _, _, rfl, rfl, e4 _ _ (e3 _ _ hl), by rw [List.length_map, len, sizeLine_eq]; omega, ?_⟩
          obtain ⟨g1, g2, g3, g4⟩ := add z H4 (e3.trans e4)
          exact ⟨_, _, _, rfl, g1, g2, g3, g4⟩
    · obtain ⟨r, y5, ds, rfl, sm, hl, len, hb⟩ := pv'
      exact s_end (Q := Q) (P := fun u H' => u = .ref a ∧ Dp K H' u (.list (ds.map PyData.int))) (evp_var rfl fun H' e => ⟨rfl, dp_same e (ints_list hl)⟩) fun u H' e hd => by
        obtain ⟨rfl, hd⟩ := hd
        exact q a H' ds (sm.trans e) na hd len hb
end
end SFW

set_option maxRecDepth 100000
set_option maxHeartbeats 4000000
/-! # _law_tuples -/
namespace SFW
open PySem PySem.Spec PyProof.Rows L2
open SF (Poly)
abbrev sTuples : Stmt := topS 44
abbrev nTuples : List Str := ["_law_thing", "_law_part"]
theorem scTuples : FnScope nTuples ["_law_thing"] (defScope sTuples) := ⟨rfl, rfl, rfl, by decide +kernel, rfl, by decide +kernel, by decide +kernel⟩
theorem b_isi : bootBuiltins "isinstance" = some (.builtin "isinstance") := by decide +kernel
theorem b_bool : bootBuiltins "bool" = some (.type "bool") := by decide +kernel
section
variable {P : Program} {w : World} {K : PySem.W.Frag} {mg : Str → Option Value} {base : Heap} {te : TE} {σ : L2.St} {H : Hp}
theorem tyx_tup {v : V} {ds : List PyData} (h : Dp K H v (.tuple ds)) : TyX K H v (.type "tuple") := by
  obtain ⟨a, xs, rfl, hs, _⟩ := dp_tup h
  rcases hs with (e | ⟨o, e⟩) | ⟨o, its, n, e, c, _⟩
  · exact .base (.tup e)
  · exact .fTuple e
  · exact .kTuple e c
theorem tyx_int {v : V} {i : Int} (h : Dp K H v (.int i)) : TyX K H v (.type "int") := by
  cases dp_int h
  exact .base (.int i)
theorem evv_isi {t n : String} {b : Bool} {d : PyData} (h : EvD K te σ H d) (ht : ∀ v H', Dp K H' v d → TyX K H' v (.type t)) (kb : kitB t n = some b) : EvV (tCB (rIsi K) (tCons te (tCons (tC (.ty n)) tNil))) σ H (.bl b) :=
  evp_cb (PA := fun vs H' => ∃ v, vs = [v, .ty n] ∧ Dp K H' v d) (eap_cons h fun v H1 e1 p1 => eap_cons (P1 := fun u _ => u = .ty n) evv_c fun u H2 e2 p2 => eap_nil fun H3 e3 => ⟨v, by rw [p2], dp_same (e2.trans e3) p1⟩)
    fun vs H1 e1 ⟨v, p1, p2⟩ Q q => ⟨v, .ty n, .type t, .type n, b, p1, .ty n, ht v H1 p2, kit_ty kb, q _ _ (Same.refl _) rfl⟩
/-- nested tuples of ints, of at most so many layers -/
def good : Nat → PyData → Prop
  | 0, _ => False
  | n + 1, d => (∃ i, d = .int i) ∨ ∃ ds, d = .tuple ds ∧ ds.length < sizeLine ∧ ∀ e ∈ ds, good n e
theorem good_int {n : Nat} {i : Int} : good (n + 1) (.int i) := .inl ⟨i, rfl⟩
theorem good_poly {p : Poly} (h : p.length < sizeLine) : good 4 (polyD p) := .inr ⟨_, rfl, by rw [List.length_map]; exact h, fun e he => by
  obtain ⟨t, _, rfl⟩ := List.mem_map.mp he
  refine .inr ⟨_, rfl, by show 2 < sizeLine; decide, fun e he => ?_⟩
  rcases List.mem_cons.mp he with rfl | he
  · refine .inr ⟨_, rfl, by show 2 < sizeLine; decide, fun e he => ?_⟩
    rcases List.mem_cons.mp he with rfl | he
    · exact good_int
    · rcases List.mem_cons.mp he with rfl | he
      · exact good_int
      · exact nomatch he
  · rcases List.mem_cons.mp he with rfl | he
    · exact good_int
    · exact nomatch he⟩
def spTuples (K : PySem.W.Frag) (n : Nat) : Sp := fun vs H Q _ => ∃ (v : V) (d : PyData), vs = [v] ∧ Dp K H v d ∧ good n d ∧ ∀ H', Same H H' → Q (.bl true) H'
theorem ok_tuples {f : Addr} {fd : FuncData} (F : Fun K "_law_tuples" "_law_tuples" sTuples f fd) (mi : mg "isinstance" = none) (mt : mg "tuple" = none) (ma : mg "all" = none) (mn : mg "int" = none) (mb : mg "bool" = none)
    (gF : mg "_law_tuples" = some (.ref f)) (kF : PySem.W.keepIn K (.ref f) = true) (bF : Binds K fd ["_law_thing"] []) : ∀ n : Nat, FnOk P w K mg base CX0 n f fd ["_law_thing"] (spTuples K n)
  | 0 => ⟨fun vs H Q E h => by obtain ⟨_, _, _, _, h, _⟩ := h; exact h.elim, fun A outer s H args us vs Q E _ _ _ _ h => by obtain ⟨_, _, _, _, h, _⟩ := h; exact h.elim⟩
  | n + 1 => by
    have G := ok_tuples F mi mt ma mn mb gF kF bF n
    refine F.ok scTuples (fun vs H Q E h => ?_) (fun cdv A outer s H vs Q E hr h => ?_)
    · obtain ⟨v, d, rfl, _⟩ := h; rfl
    · obtain ⟨v, d, rfl, hv, hd, q⟩ := h
      refine ⟨_, pss_cons (ps_if (pt_val (pe_callB call_isi (by rfl) mi b_isi (pa_cons (pv 0) (pa_cons (pe_bltn (v := .ty "tuple") (by rfl) mt b_tuple rfl) pa_nil))))
          (pss_one (ps_ret (pe_callB (cr_all rfl) (by rfl) ma b_all (pa_cons (pe_lc (own := [("_law_part", 1)]) (g := gName 1) (tt := tYes) (te := tCall (spTuples K n) [] E0 (tCons (tVar 1) tNil)) rfl scTuples.nd (pi_tup (pv 0)) (blkOk_by (N := nTuples) (sc := defScope sTuples) (by decide +kernel))
            (fun _ _ _ _ _ => pg_name (i := 1) scTuples.nd rfl (.inl rfl)) (fun _ _ _ _ _ => pts_nil) (fun _ _ _ _ _ => by exact (pe_call G hr rfl gF kF bF .nil pass0 (pa_cons (pv 1) pa_nil)))) pa_nil)))) pss_nil)
        (pss_one (ps_ret (pe_and (pe_callB call_isi (by rfl) mi b_isi (pa_cons (pv 0) (pa_cons (pe_bltn (v := .ty "int") (by rfl) mn b_int rfl) pa_nil))) (pe_one (pe_not (pe_callB call_isi (by rfl) mi b_isi (pa_cons (pv 0) (pa_cons (pe_bltn (v := .ty "bool") (by rfl) mb b_bool rfl) pa_nil)))))))), ?_⟩
      rcases hd with ⟨i, rfl⟩ | ⟨ds, rfl, hl, hg⟩
      · refine q_when (b := false) (evb_B (evv_isi (t := "int") (evd_var rfl hv) (fun _ _ => tyx_int) (by decide +kernel))) (fun z => nomatch z) fun _ H1 e1 => ?_
        exact s_end (Q := Q) (evv_andV (a := true) (b := true) (evv_isi (t := "int") (evd_var rfl (dp_same e1 hv)) (fun _ _ => tyx_int) (by decide +kernel)) (fun _ => evv_notV (a := false) (evv_isi (t := "int") (evd_var rfl (dp_same e1 hv)) (fun _ _ => tyx_int) (by decide +kernel)))) fun v H2 e2 p2 => by subst p2; exact q _ (e1.trans e2)
      · refine q_when (b := true) (evb_B (evv_isi (t := "tuple") (evd_var rfl hv) (fun _ _ => tyx_tup) (by decide +kernel))) (fun _ H1 e1 => ?_) (fun z => nomatch z)
        refine s_ret (P := fun v _ => v = .bl true) ((evv_all (K := K) (bs := ds.map fun _ => true) ?_).vis (by simp)) fun v H2 e2 p2 => by subst p2; exact q _ (e1.trans e2)
        rw [List.map_map]
        refine evd_lcA (l := ds) (src_tup (evd_var (i := 0) rfl (dp_same e1 hv))) hl _ (fun _ => rfl) fun t x H' ht e yd R kk => ?_
        refine kk _ rfl (evd_bl (b := true) (evp_callV (vs := [x]) (eav_cons (evv_var rfl) eav_nil) fun H3 e3 Q3 q3 => ⟨x, t, rfl, dp_same e3 yd, hg t ht, fun H4 e4 => q3 _ _ e4 rfl⟩))
end
end SFW

set_option maxRecDepth 100000
set_option maxHeartbeats 4000000
/-! # xs += ys, two lists -/
namespace SFW
open PySem PySem.Spec PyProof.Rows L2
section
variable {prog : Program} {w : World} {A : Around} {E : Value → Shared → Prop} {s : Shared}
theorem fills_iadd_list : fillsInplaceSlot (.type "list") "add" (Operator.Add == .Add) = pure false := by
  unfold fillsInplaceSlot
  show (typeLookup (.type "list") (dunderI "add") >>= fun fi => pure (fi.isSome && !isSeqSlot fi)) = pure false
  rw [PySem.F.slot_list_iadd.lookup]
  rfl
theorem seq_list_iadd : seqSlot? (.type "list") (dunderI "add") = pure (some (.builtin "list.__iadd__")) := PySem.seqSlot_of PySem.F.slot_list_iadd.lookup (by decide +kernel)
theorem iadd_lists {l b : Addr} {items items2 : Array Value} {n n2 : Nat} {Q : Value → Shared → Prop} (hl : IsL s.heap l items n) (hb : IsL s.heap b items2 n2) (hz : items.size + items2.size ≤ sizeLine) (hlong : ¬ (!items.isEmpty && Builtin.List.listTooLong (items.size + items2.size)) = true)
    (h : Q (.ref l) { s with heap := s.heap.update l (Obj.mapSeq fun x => x ++ items2) }) : wpAny (model prog w) A (inplaceOp .Add (.ref l) (.ref b)) Q E s := by
  have ha : s.TypeIs (.ref l) "list" := ⟨_, hl, rfl⟩
  have hb' : s.TypeIs (.ref b) "list" := ⟨_, hb, rfl⟩
  unfold inplaceOp
  refine wpAny_holding ?_
  refine wpAny_bind (wpAny_typeOf ha (wpAny_bind (wpAny_of_eq fills_iadd_list ?_)))
  show wpAny _ A (if false = true then _ else _) Q E s
  rw [if_neg Bool.false_ne_true]
  refine wpAny_bind (wpAny_binaryOp1_none (nm := "add") ha hb' noFill_list_add ?_)
  refine wpAny_bind (wpAny_of_eq seq_list_iadd ?_)
  refine wpAny_bind (wpAny_rule ?_)
  exact call_meets PySem.F.slot_list_iadd ha PySem.F.entry_list_iadd (PySem.F.args_list_iadd_2 _ _) (PySem.AutoSeq1.list___iadd___list_list_0 l items n b items2 n2 hlong (by omega) (by omega)) ⟨hl, hb, h⟩
end
def rIext : TIp := fun x y H Q => ∃ l b xs zs, x = .ref l ∧ y = .ref b ∧ H l = some (.lst xs) ∧ H b = some (.lst zs) ∧ xs.length + zs.length ≤ sizeLine ∧ Q (.ref l) (upd H l (.lst (xs ++ zs)))
theorem ip_lst {X : Cx} : PIp X .Add rIext := by
  intro pins s σ H x y v u Q I rx ry h
  obtain ⟨l, b, xs, zs, rfl, rfl, hH, hB, hz, q⟩ := h
  cases rx
  cases ry
  obtain ⟨z, its, n, r, hl, e⟩ := I.lstM hH
  obtain ⟨z2, its2, n2, r2, hl2, e2⟩ := I.lstM hB
  have hsz : its.toArray.size + its2.toArray.size ≤ sizeLine := by rw [List.size_toArray, List.size_toArray]; omega
  have hlong : ¬ (!its.toArray.isEmpty && Builtin.List.listTooLong (its.toArray.size + its2.toArray.size)) = true := by
    rw [notLongL hsz, Bool.and_false]
    exact Bool.false_ne_true
  refine iadd_lists e e2 hsz hlong ?_
  exact ⟨.ref l, _, I.lset (its' := its ++ its2) hH e (by simp) (r.append r2) (by rw [List.length_append]; omega), rfl, q⟩
end SFW

set_option maxRecDepth 100000
set_option maxHeartbeats 4000000
/-! # _law_spins -/
namespace SFW
open PySem PySem.Spec PyProof.Rows L2
open SF (Poly)
abbrev sLS : Stmt := topS 45
abbrev nLS : List Str := ["_law_script", "_law_first", "_law_most", "_law_kind", "_law_count", "_law_fields", "_law_pairs", "_law_u", "_law_edges", "_law_digits", "_law_k", "_law_coupling", "_law_digit", "_law_v"]
theorem scLS : FnScope nLS ["_law_script", "_law_first", "_law_most", "_law_kind"] (defScope sLS) := ⟨rfl, rfl, rfl, by decide +kernel, rfl, by decide +kernel, by decide +kernel⟩
abbrev cps : List Int := [1, -1, 0, 2, 1, 0, -2, 3, 0, 1, -1, 0]
def prD (p : Nat × Nat) : PyData := .tuple [.int (p.1 : Int), .int (p.2 : Int)]
def tuPairs (n u : Nat) : List (Nat × Nat) := (List.range (n - (u + 1))).map fun i => (u, u + 1 + i)
structure lsOK (h : List Int) (es : List SF.Edge) : Prop where
  lo : 1 ≤ h.length
  hi : h.length ≤ 6
  lt : ∀ e ∈ es, e.1 < e.2.1 ∧ e.2.1 < h.length
  asc : es.Pairwise fun e f => e.1 < f.1 ∨ (e.1 = f.1 ∧ e.2.1 < f.2.1)
  cj : ∀ e ∈ es, e.2.2 ≠ 0 ∧ -3 ≤ e.2.2 ∧ e.2.2 ≤ 3
  fj : ∀ f ∈ h, -2 ≤ f ∧ f ≤ 2
structure prOK (n u : Nat) (ps : List (Nat × Nat)) : Prop where
  lt : ∀ p ∈ ps, p.1 < p.2 ∧ p.2 < n ∧ p.1 < u
  asc : ps.Pairwise fun e f => e.1 < f.1 ∨ (e.1 = f.1 ∧ e.2 < f.2)
  len : ps.length ≤ 6 * u
theorem prOK.next {n u : Nat} {ps : List (Nat × Nat)} (h6 : n ≤ 6) (h : prOK n u ps) : prOK n (u + 1) (ps ++ tuPairs n u) where
  lt := fun p hp => by
    rcases List.mem_append.mp hp with z | z
    · have := h.lt p z
      exact ⟨this.1, this.2.1, by omega⟩
    · obtain ⟨i, hi, rfl⟩ := List.mem_map.mp z
      have := List.mem_range.mp hi
      exact ⟨by show u < u + 1 + i; omega, by show u + 1 + i < n; omega, by show u < u + 1; omega⟩
  asc := by
    rw [List.pairwise_append]
    refine ⟨h.asc, ?_, fun p hp q hq => ?_⟩
    · unfold tuPairs
      rw [List.pairwise_map]
      exact List.pairwise_lt_range.imp fun h => .inr ⟨rfl, by show u + 1 + _ < u + 1 + _; omega⟩
    · obtain ⟨i, hi, rfl⟩ := List.mem_map.mp hq
      exact .inl (h.lt p hp).2.2
  len := by
    have := h.len
    rw [List.length_append, tuPairs, List.length_map, List.length_range]
    omega
section
variable {P : Program} {w : World} {K : PySem.W.Frag} {mg : Str → Option Value} {base : Heap} {te tb tc tn tl : TE} {tr : TA} {σ : L2.St} {H : Hp} {g : TG} {tt : TT} {vs : List Nat} {Q : VK}
abbrev AnI : V → Hp → Prop := fun v _ => ∃ z : Int, v = .int z
theorem lc_split (h : tl σ H fun x H1 => tLc (iList K (tC x)) g tt te vs σ H1 Q) : tLc (iList K tl) g tt te vs σ H Q := h
theorem evp_cell {v : V} {ns : List Int} {k : Nat} {ta tk : TE} (h1 : EvP ta σ H fun u H' => u = v ∧ Dp K H' u (.list (ns.map PyData.int))) (h2 : EvV tk σ H (.int (k : Int))) : EvP (tCall (spCell K) [] E0 (tCons ta (tCons tk tNil))) σ H AnI :=
  evp_call (PA := fun us H' => us = [v, .int (k : Int)] ∧ Dp K H' v (.list (ns.map PyData.int))) (eap_cons h1 fun u H1 e1 p1 => eap_cons (h2.up e1) fun x H2 e2 p2 => eap_nil fun H3 e3 => ⟨by rw [p1.1, p2], dp_same (e2.trans e3) (p1.1 ▸ p1.2)⟩) fun us H1 e1 p1 Q q => ⟨v, ns, k, by rw [p1.1]; rfl, p1.2, fun z H' e => q _ _ e ⟨z, rfl⟩⟩
theorem evp_row {n : Nat} {b : Int} (h1 : EvP tc σ H AnI) (h2 : EvV tn σ H (.int (n : Int))) (h3 : EvV tb σ H (.int b)) (h60 : n ≤ 60) (b0 : 0 < b) (b1 : b < 1073741824) :
    EvP (tCall (spRow K) [] E0 (tCons tc (tCons tn (tCons tb tNil)))) σ H fun u H' => ∃ ds : List Int, Dp K H' u (.list (ds.map PyData.int)) ∧ ds.length = n ∧ (∀ d ∈ ds, 0 ≤ d ∧ d < b) ∧ ∃ a, u = .ref a ∧ H a = none :=
  evp_call (PA := fun us _ => ∃ z : Int, us = [.int z, .int (n : Int), .int b]) (eap_cons h1 fun u H1 e1 p1 => eap_cons (h2.up e1) fun x H2 e2 p2 => eap_cons (h3.up (e1.trans e2)) fun y H3 e3 p3 => eap_nil fun H4 e4 => by
    obtain ⟨z, rfl⟩ := p1
    exact ⟨z, by rw [p2, p3]⟩) fun us H1 e1 p1 Q q => by
    obtain ⟨z, rfl⟩ := p1
    exact ⟨z, n, b, rfl, h60, b0, b1, fun a H' ds e na hd hl hb => q (.ref a) H' e ⟨ds, hd, hl, hb, a, rfl, e1.free na⟩⟩
theorem evp_modI {j : Int} (h : EvP te σ H AnI) (hb : EvV tb σ H (.int j)) (hj : 0 < j) : EvP (tOp (rI (fun _ j => 0 < j) fun i j => .int (i % j)) te tb) σ H fun v _ => ∃ n : Nat, v = .int (n : Int) ∧ (n : Int) < j :=
  evp_op h (fun _ _ _ _ p => p) hb fun x y H1 e1 p1 p2 Q q => by
    obtain ⟨z, rfl⟩ := p1
    subst p2
    have h0 := Int.emod_nonneg z (show j ≠ 0 by omega)
    have h1 := Int.emod_lt_of_pos z hj
    exact ⟨z, j, rfl, rfl, hj, q _ _ (Same.refl _) ⟨(z % j).toNat, by rw [Int.toNat_of_nonneg h0], by rw [Int.toNat_of_nonneg h0]; exact h1⟩⟩
def spLS (K : PySem.W.Frag) : Sp := fun vs H Q _ => ∃ (v : V) (ns : List Int) (kd : Int), vs = [v, .int 0, .int 6, .int kd] ∧ Dp K H v (.list (ns.map PyData.int)) ∧ (kd = 0 ∨ kd = 2) ∧
  ∀ u H' (h : List Int) (es : List SF.Edge), Same H H' → Dp K H' u (.tuple [.list (h.map PyData.int), .list (es.map edgeD)]) → lsOK h es → Q u H'
theorem in13 (kd : Int) (h : kd = 0 ∨ kd = 2) : inV (.int kd) [.int 1, .int 3] = false := by
  rcases h with rfl | rfl <;> decide +kernel
theorem evd_rep {n : Nat} (h : EvV te σ H (.int (n : Int))) (hn : n ≤ 1000) : EvD K (tOp rRep (tLst (tCons (tC (.int 0)) tNil)) te) σ H (.list ((List.replicate n (0 : Int)).map PyData.int)) :=
  evp_op (P1 := fun v H' => ∃ a, v = .ref a ∧ H' a = some (.lst [.int 0])) (P2 := fun v _ => v = .int (n : Int)) ((evp_lstN (K := K) (ds := [.int 0]) (ead_cons evd_int ead_nil) (by show 1 ≤ sizeLine; decide)).imp fun v H' e ⟨a, xs, e1, _, e2, e3⟩ => ⟨a, e1, by
      obtain ⟨x, rfl, hx⟩ := dpa_one e3
      rw [dp_int hx] at e2
      exact e2⟩) (fun v H1 H2 e ⟨a, e1, e2⟩ => ⟨a, e1, e _ _ e2⟩) h fun x y H1 e1 p1 p2 Q q => by
    obtain ⟨a, rfl, ha⟩ := p1
    subst p2
    refine ⟨a, n, _, rfl, rfl, ha, by omega, by omega, by rw [sizeLine_eq]; show 1 * ((n : Int)).toNat ≤ _; omega, fun p np => q _ _ (same_new np) ?_⟩
    have e : (List.replicate ((n : Int)).toNat [V.int 0]).flatten = (List.replicate n (0 : Int)).map V.int := by
      rw [Int.toNat_natCast, List.flatten_replicate_singleton, List.map_replicate]
    rw [e]
    exact ints_list upd_same
theorem evp_add1 {j : Int} (h : EvP te σ H fun v _ => ∃ n : Nat, v = .int (n : Int) ∧ (n : Int) < j) : EvP (tOp (rI0 fun i j => .int (i + j)) (tC (.int 1)) te) σ H fun v _ => ∃ n : Nat, v = .int (n : Int) ∧ 1 ≤ n ∧ (n : Int) ≤ j :=
  evp_op (P1 := fun v _ => v = .int 1) evv_c (fun _ _ _ _ p => p) h fun x y H1 e1 p1 p2 Q q => by
    obtain ⟨n, rfl, hn⟩ := p2
    subst p1
    exact ⟨1, n, rfl, rfl, q _ _ (Same.refl _) ⟨n + 1, by show V.int (1 + (n : Int)) = V.int ((n + 1 : Nat) : Int); congr 1; omega, by omega, by omega⟩⟩
theorem q_whenSet {c : TT} {tz : TS} {D : Ends} {i : Nat} {b : Bool} {P1 : V → Hp → Prop} (R : L2.St → Hp → Prop) (h : EvB c σ H b) (hs : b = true → EvP te σ H P1) (k1 : ∀ v H1, Same H H1 → P1 v H1 → R (σ.set i (some v)) H1) (k2 : ∀ H1, Same H H1 → R σ H1) (kR : ∀ σ' H', R σ' H' → tz D σ' H') :
    tSeq (tIfS c (tAsg te (gName i)) tNext) tz D σ H :=
  q_when h (fun hb H1 e1 => ((hs hb).up e1).go fun v H2 e2 p2 => kR _ _ (k1 v H2 (e1.trans e2) p2)) fun _ H1 e1 => kR _ _ (k2 H1 e1)
theorem ok_LS {f fC fR : Addr} {fd fdC fdR : FuncData} (F : Fun K "_law_spins" "_law_spins" sLS f fd) (mr : mg "range" = none) (ml : mg "len" = none) (ma : mg "abs" = none)
    (GC : FnOk P w K mg base CX0 1 fC fdC ["_law_script", "_law_k"] (spCell K)) (gC : mg "_law_cell" = some (.ref fC)) (kC : PySem.W.keepIn K (.ref fC) = true) (bC : Binds K fdC ["_law_script", "_law_k"] [])
    (GR : FnOk P w K mg base CX0 2 fR fdR ["_law_cell_here", "_law_count", "_law_bound"] (spRow K)) (gR : mg "_law_row" = some (.ref fR)) (kR : PySem.W.keepIn K (.ref fR) = true) (bR : Binds K fdR ["_law_cell_here", "_law_count", "_law_bound"] []) :
    FnOk P w K mg base CX0 3 f fd ["_law_script", "_law_first", "_law_most", "_law_kind"] (spLS K) := by
  refine F.ok scLS (fun vs H Q E h => ?_) (fun cdv A outer s H vs Q E hr h => ?_)
  · obtain ⟨v, ns, kd, rfl, _⟩ := h; rfl
  · obtain ⟨v, ns, kd, rfl, hv, hkd, q⟩ := h
    have hr1 : Room 1 _ := hr.mono (by decide)
    refine ⟨_, pss_cons (ps_set (i := 4) scLS.nd rfl (.inl rfl) (by exact (pe_op op_add pe_int (pe_op op_mod (pe_call GC hr1 rfl gC kC bC .nil pass0 (pa_cons (pv 0) (pa_cons (pv 1) pa_nil))) (pv 2)))))
      (pss_cons (ps_set (i := 5) scLS.nd rfl (.inl rfl) (pe_op op_rep (pe_lst (pa_cons pe_int pa_nil)) (pv 4)))
      (pss_cons (ps_if (pt_cmpR op_lt (pv 3) pe_int (nomark _)) (pss_one (ps_setLc (i := 5) (own := [("_law_digit", 12)]) (g := gName 12) (tt := tYes) (te := tOp (rI0 fun i j => .int (i - j)) (tVar 12) (tC (.int 2)))
          (wi := iList K (tCall (spRow K) [] E0 (tCons (tCall (spCell K) [] E0 (tCons (tVar 0) (tCons (tOp (rI0 fun i j => .int (i + j)) (tVar 1) (tC (.int 1))) tNil))) (tCons (tVar 4) (tCons (tC (.int 5)) tNil)))))
          rfl scLS.nd rfl rfl (sw_true rfl rfl rfl (by decide +kernel)) (by exact (pi_list (pe_call GR hr rfl gR kR bR .nil pass0 (pa_cons (pe_call GC hr1 rfl gC kC bC .nil pass0 (pa_cons (pv 0) (pa_cons (pe_op op_add (pv 1) pe_int) pa_nil))) (pa_cons (pv 4) (pa_cons pe_int pa_nil))))))
          (blkOk_by (N := nLS) (sc := defScope sLS) (by decide +kernel)) (fun _ _ _ _ _ => pg_name (i := 12) scLS.nd rfl (.inl rfl)) (fun _ _ _ _ _ => pts_nil) (fun _ _ _ _ _ => pe_op op_sub (pv 12) pe_int))) pss_nil)
      (pss_cons (ps_set (i := 6) scLS.nd rfl (.inl rfl) (pe_lst pa_nil))
      (pss_cons (ps_for PassesOwn.never rfl (by exact (pi_range1 (by rfl) mr (pa_cons (pv 4) pa_nil))) (pg_name (i := 7) scLS.nd rfl (.inr rfl))
        (pss_one (ps_aug (i := 6) scLS.nd rfl (.inl rfl) (by exact (pe_lc (own := [("_law_v", 13)]) (g := gName 13) (tt := tYes) (te := tTup (tCons (tVar 7) (tCons (tVar 13) tNil))) rfl scLS.nd (pi_range2 (by rfl) mr (pa_cons (pe_op op_add (pv 7) pe_int) (pa_cons (pv 4) pa_nil))) (blkOk_by (N := nLS) (sc := defScope sLS) (by decide +kernel))
          (fun _ _ _ _ _ => pg_name (i := 13) scLS.nd rfl (.inl rfl)) (fun _ _ _ _ _ => pts_nil) (fun _ _ _ _ _ => pe_tup (pa_cons (pv 7) (pa_cons (pv 13) pa_nil))))) ip_lst)))
      (pss_cons (ps_set (i := 8) scLS.nd rfl (.inl rfl) (pe_lst pa_nil))
      (pss_cons (ps_set (i := 9) scLS.nd rfl (.inl rfl) (by exact (pe_call GR hr rfl gR kR bR .nil pass0 (pa_cons (pe_call GC hr1 rfl gC kC bC .nil pass0 (pa_cons (pv 0) (pa_cons (pe_op op_add (pv 1) pe_int) pa_nil))) (pa_cons (pe_callB call_len_seq (by rfl) ml b_len (pa_cons (pv 6) pa_nil)) (pa_cons pe_int pa_nil))))))
      (pss_cons (ps_for PassesOwn.never rfl (by exact (pi_range1 (by rfl) mr (pa_cons (pe_callB call_len_seq (by rfl) ml b_len (pa_cons (pv 6) pa_nil)) pa_nil))) (pg_name (i := 10) scLS.nd rfl (.inl rfl))
        (pss_cons (ps_set (i := 11) scLS.nd rfl (.inl rfl) (pe_ix ix_tup (pe_tup (pa_cons pe_int (pa_cons (pe_un un_neg pe_int) (pa_cons pe_int (pa_cons pe_int (pa_cons pe_int (pa_cons pe_int (pa_cons (pe_un un_neg pe_int) (pa_cons pe_int (pa_cons pe_int (pa_cons pe_int (pa_cons (pe_un un_neg pe_int) (pa_cons pe_int pa_nil))))))))))))) (pe_ix ix_list (pv 9) (pv 10) (fun _ _ => rfl)) (fun _ _ => rfl)))
        (pss_one (ps_if (pt_cmpR op_ne (pv 11) pe_int (nomark _)) (pss_one (ps_expr (by exact (pe_bm PySem.F.plainAttrs_list PySem.F.slot_list_append PySem.F.type_list_append mt_append (pv 8) (pa_cons (pe_tup (pa_cons (pe_ix ix_tup (pe_ix ix_list (pv 6) (pv 10) (fun _ _ => rfl)) pe_int (fun _ _ => rfl))
            (pa_cons (pe_ix ix_tup (pe_ix ix_list (pv 6) (pv 10) (fun _ _ => rfl)) pe_int (fun _ _ => rfl)) (pa_cons (pe_ifExp (pt_cmpR op_in_seq (pv 3) (pe_tup (pa_cons pe_int (pa_cons pe_int pa_nil))) rfl) (pe_callB call_abs (by rfl) ma b_abs (pa_cons (pv 11) pa_nil)) (pv 11)) pa_nil)))) pa_nil))))) pss_nil))))
      (pss_one (ps_ret (pe_tup (pa_cons (pv 5) (pa_cons (pv 8) pa_nil)))))))))))), ?_⟩
    refine q_set (evp_add1 (evp_modI (j := 6) (evp_cell (k := 0) (evp_var (P := fun u H' => u = v ∧ Dp K H' u (.list (ns.map PyData.int))) rfl fun H' e => ⟨rfl, dp_same e hv⟩) (evv_var rfl)) (evv_var rfl) (by decide))) fun u H1 e1 p1 => ?_
    obtain ⟨n, rfl, n1, n6'⟩ := p1
    have n6 : n ≤ 6 := by omega
    refine q_set (evd_rep (K := K) (n := n) (evv_var rfl) (by omega)) fun fv0 H2 e2 hf0 => ?_
    have e02 := e1.trans e2
    refine q_whenSet (fun σ' H' => ∃ fv o12 h, σ' = [some v, some (.int 0), some (.int 6), some (.int kd), some (.int (n : Int)), some fv, none, none, none, none, none, none, o12, none] ∧ Same H2 H' ∧ Dp K H' fv (.list ((h : List Int).map PyData.int)) ∧ h.length = n ∧ ∀ f ∈ h, -2 ≤ f ∧ f ≤ 2)
      (b := decide (kd < 2)) (P1 := fun u H' => ∃ h : List Int, Dp K H' u (.list (h.map PyData.int)) ∧ h.length = n ∧ ∀ f ∈ h, -2 ≤ f ∧ f ≤ 2) (evb_test (evv_lt (evv_var rfl) evv_c)) (fun _ => ?_) (fun u H3 e3 ⟨h, p1, p2, p3⟩ => ⟨u, none, h, rfl, e3, p1, p2, p3⟩)
      (fun H3 e3 => ⟨fv0, none, List.replicate n 0, rfl, e3, dp_same e3 hf0, by simp, fun f hf => by rw [(List.mem_replicate.mp hf).2]; omega⟩) (fun σ' H' hR => ?_)
    · intro H3 e3 Q3 q3
      refine lc_split ?_
      refine (evp_row (n := n) (b := 5) (evp_cell (k := 1) (evp_var (P := fun u H' => u = v ∧ Dp K H' u (.list (ns.map PyData.int))) rfl fun H' e => ⟨rfl, dp_same ((e02.trans e3).trans e) hv⟩) ((evv_add (i := 0) (j := 1) (evv_var rfl) evv_c).vis rfl)) (evv_var rfl) evv_c (by omega) (by decide) (by decide)).go fun u H4 e4 p4 => ?_
      obtain ⟨ds, hd, dl, db, _⟩ := p4
      refine (evd_lcA (K := K) (l := ds) (src_list (evd_c hd)).map (by rw [sizeLine_eq]; omega) (fun d => PyData.int (d - 2)) (fun _ => rfl) fun t x H' ht e yd R kk => ?_).go fun u2 H5 e5 p5 => ?_
      · cases dp_int yd
        exact kk _ rfl (evv_d (evv_sub (evv_var rfl) evv_c))
      · refine q3 u2 H5 (e4.trans e5) ⟨ds.map fun d => d - 2, ?_, by rw [List.length_map, dl], fun f hf => ?_⟩
        · rw [List.map_map]; exact p5
        · obtain ⟨d, hd, rfl⟩ := List.mem_map.mp hf
          have := db d hd
          omega
    · obtain ⟨fv, o12, h, rfl, e23, hfv, hl, hb⟩ := hR
      have e03 := e02.trans e23
      refine q_set (evp_lstN (K := K) (ds := []) ead_nil (Nat.zero_le _)) fun u H4 e4 p4 => ?_
      obtain ⟨pa, x0, rfl, na, ha, hx⟩ := p4
      cases dpa_nil hx
      refine q_forR (evv_var rfl) (by omega) (fun i σ'' H'' => ∃ y7 pxs ps, σ'' = [some v, some (.int 0), some (.int 6), some (.int kd), some (.int (n : Int)), some fv, some (.ref pa), y7, none, none, none, none, o12, none] ∧ Same H' H'' ∧ H'' pa = some (.lst pxs) ∧ DpAll K H'' pxs ((ps : List (Nat × Nat)).map prD) ∧ prOK n i ps)
        (fun H5 e5 => ⟨none, [], [], rfl, e4.trans e5, e5 _ _ ha, .nil, ⟨fun p hp => (nomatch hp), .nil, Nat.zero_le _⟩⟩) (fun i σ'' H'' hi pv' => ?_) (fun σ'' H'' pv' => ?_)
      · obtain ⟨y7, pxs, ps, rfl, sm, hpa, hpx, ok⟩ := pv'
        refine ⟨_, rfl, ?_⟩
        refine (evd_lcAN (K := K) (l := List.range (n - (i + 1))) (src_range2 (lo := (i : Int) + 1) (hi := (n : Int)) (evv_add (evv_var rfl) evv_c) (evv_var rfl) ⟨by omega, by omega, by omega, by omega⟩ (by omega)) (by rw [List.length_range, sizeLine_eq]; omega) (fun j => prD (i, i + 1 + j)) (fun _ => rfl) fun t x H5 ht e yd R kk => ?_).go fun u H5 e5 p5 => ?_
        · subst yd
          exact kk _ rfl (evd_tup (K := K) (ead_cons (evv_d (evv_var rfl)) (ead_cons (evv_d ((evv_var rfl).vis (by congr 1))) ead_nil)) (by show 2 ≤ sizeLine; decide))
        · obtain ⟨b, zs, rfl, nb, hb1, hb2⟩ := p5
          have l1 := dpa_len hpx
          have l2 := dpa_len hb2
          rw [List.length_map] at l1 l2
          rw [List.length_range] at l2
          have okl := ok.len
          have hpa5 := e5 _ _ hpa
          refine ⟨pa, b, pxs, zs, rfl, rfl, hpa5, hb1, by rw [sizeLine_eq]; omega, ?_⟩
          have sT : SameT H5 (upd H5 pa (.lst (pxs ++ zs))) := .lst hpa5
          refine ⟨_, _, ps ++ tuPairs n i, rfl, same_mut (sm.trans e5) na, upd_same, ?_, ok.next n6⟩
          rw [List.map_append]
          refine dpa_app (dpa_sameT sT (noLs_map fun _ _ => rfl) (dpa_same e5 hpx)) ?_
          have : (tuPairs n i).map prD = (List.range (n - (i + 1))).map fun j => prD (i, i + 1 + j) := by rw [tuPairs, List.map_map]; rfl
          rw [this]
          exact dpa_sameT sT (noLs_map fun _ _ => rfl) hb2
      · obtain ⟨y7, pxs, ps, rfl, sm, hpa, hpx, ok⟩ := pv'
        have e46 := sm
        have hl0 := ok.len
        have pl : ps.length ≤ 60 := by omega
        refine q_set (evp_lstN (K := K) (ds := []) ead_nil (Nat.zero_le _)) fun u H5 e5 p5 => ?_
        obtain ⟨ea, x0', rfl, nea, hea, hx'⟩ := p5
        cases dpa_nil hx'
        have hP : ∀ H6, Same H5 H6 → Dp K H6 (.ref pa) (.list (ps.map prD)) := fun H6 e6 => dp_same (e5.trans e6) (.lst (.inl (.inl hpa)) hpx)
        have e05 := (e03.trans sm).trans e5
        refine q_set (evp_row (n := ps.length) (b := 12) (evp_cell (k := 2) (evp_var (P := fun u H' => u = v ∧ Dp K H' u (.list (ns.map PyData.int))) rfl fun H' e => ⟨rfl, dp_same (e05.trans e) hv⟩) ((evv_add (i := 0) (j := 2) (evv_var rfl) evv_c).vis rfl))
          ((evv_lenL (evd_var rfl (hP H5 (Same.refl _)))).vis (by rw [List.length_map])) evv_c pl (by decide) (by decide)) fun dv H6 e6 p6 => ?_
        obtain ⟨ds, hd, dl, db, _⟩ := p6
        obtain ⟨da, dxs, rfl, hd1, hd2⟩ := dp_lst hd
        have hd2 := dpa_ints hd2
        subst hd2
        have e56 := e5.trans e6
        have hlt : ∀ {i : Nat}, i < ps.length → ∃ p d, ps[i]? = some p ∧ ds[i]? = some d ∧ 0 ≤ d ∧ d < 12 := fun {i} hi => by
          have h2 : i < ds.length := by omega
          exact ⟨ps[i], ds[i], List.getElem?_eq_getElem hi, List.getElem?_eq_getElem h2, db _ (List.getElem_mem h2)⟩
        refine q_forR ((evv_lenL (evd_var rfl (hP H6 e6))).vis (by rw [List.length_map])) (by omega) (fun i σ3 H3 => ∃ y10 y11 exs es, σ3 = [some v, some (.int 0), some (.int 6), some (.int kd), some (.int (n : Int)), some fv, some (.ref pa), y7, some (.ref ea), some (.ref da), y10, y11, o12, none] ∧ Same (hide H6 ea) H3 ∧ H3 ea = some (.lst exs) ∧ DpAll K H3 exs ((es : List SF.Edge).map edgeD) ∧
            (es.map fun e => (e.1, e.2.1)).Sublist (ps.take i) ∧ ∀ e ∈ es, e.2.2 ≠ 0 ∧ -3 ≤ e.2.2 ∧ e.2.2 ≤ 3)
          (fun H7 e7 => ⟨none, none, [], [], rfl, (hide_same (H := H6) (a := ea)).trans e7, e7 _ _ (e6 _ _ hea), .nil, .slnil, fun e he => nomatch he⟩) (fun i σ3 H3 hi pv' => ?_) (fun σ3 H3 pv' => ?_)
        · obtain ⟨y10, y11, exs, es, rfl, sm3, hex, hed, sub, cj⟩ := pv'
          obtain ⟨p, d, hp, hdi, d0, d1⟩ := hlt hi
          have hS : Same H'' (hide H6 ea) := hide_of e56 nea
          have s3 := hS.trans sm3
          have hPr : Dp K H3 (.ref pa) (.list (ps.map prD)) := dp_same s3 (.lst (.inl (.inl hpa)) hpx)
          have hDg : Dp K H3 (.ref da) (.list (ds.map PyData.int)) := by
            have dne : ds.map V.int ≠ [] := fun z => by
              have := congrArg List.length z
              rw [List.length_map, List.length_nil] at this
              omega
            refine .lst (sql_same sm3 ?_) (ints_dpa ds)
            rcases hd1 with (r | ⟨o, r⟩) | r
            · refine .inl (.inl ?_)
              rw [hide_ne fun z => ?_]
              · exact r
              · subst z
                rw [e6 _ _ hea] at r
                exact dne (HO.lst.inj (Option.some.inj r)).symm
            · refine .inl (.inr ⟨o, ?_⟩)
              rw [hide_ne fun z => ?_]
              · exact r
              · subst z
                rw [e6 _ _ hea] at r
                cases r
            · exact .inr r
          obtain ⟨c, hc, c0, c1⟩ : ∃ c, cps[d.toNat]? = some c ∧ -3 ≤ c ∧ c ≤ 3 := by
            have h12 : d.toNat < cps.length := by show d.toNat < 12; omega
            exact ⟨cps[d.toNat], List.getElem?_eq_getElem h12, (by decide : ∀ c ∈ cps, -3 ≤ c ∧ c ≤ 3) _ (List.getElem_mem h12)⟩
          refine q_set (evd_ixT (K := K) (ds := cps.map PyData.int) (i := d.toNat) (evd_tup (ead_cons evd_int (ead_cons (evv_d (evv_neg evv_c)) (ead_cons evd_int (ead_cons evd_int (ead_cons evd_int (ead_cons evd_int (ead_cons (evv_d (evv_neg evv_c)) (ead_cons evd_int (ead_cons evd_int (ead_cons evd_int (ead_cons (evv_d (evv_neg evv_c)) (ead_cons evd_int ead_nil)))))))))))) (by show 12 ≤ sizeLine; decide))
            ((evd_v (evd_ixL (i := i) (evd_var rfl hDg) (evv_var rfl) (ints_at hdi))).vis (by rw [Int.toNat_of_nonneg d0])) (ints_at hc)) fun u H7 e7 p7 => ?_
          cases dp_int p7
          have slen : es.length ≤ i := by
            have := sub.length_le
            rw [List.length_map, List.length_take] at this
            omega
          refine s_when (evb_test (evv_ne (evv_var rfl) evv_c)) (fun hb H8 e8 => ?_) (fun _ H8 e8 => ?_)
          · have cne : c ≠ 0 := fun z => by subst z; simp at hb
            have e38 := e7.trans e8
            refine ⟨_, rfl, .inl ⟨rfl, _, .inl (.inl (e38 _ _ hex))⟩, ?_⟩
            have hprA : (ps.map prD)[i]? = some (prD p) := by rw [List.getElem?_map, hp]; rfl
            refine (evd_tup (K := K) (H := H8) (ds := [.int (p.1 : Int), .int (p.2 : Int), .int c]) (ead_cons (evd_ixT (i := 0) (evd_ixL (i := i) (evd_var rfl (dp_same e38 hPr)) (evv_var rfl) hprA) evv_c rfl) (ead_cons (evd_ixT (i := 1) (evd_ixL (i := i) (evd_var rfl (dp_same e38 hPr)) (evv_var rfl) hprA) evv_c rfl)
              (ead_cons (evp_if (b := false) (evb_test (evp_op (P1 := fun x _ => x = .int kd) (P2 := fun y H' => Dp K H' y (.tuple [.int 1, .int 3])) (evv_var rfl) (fun _ _ _ _ z => z) (evd_tup (ead_cons evd_int (ead_cons evd_int ead_nil)) (by show 2 ≤ sizeLine; decide)) fun x y H9 e9 p1 p2 Q9 q9 => ?_)) (fun z => nomatch z) fun _ => evv_d (evv_var rfl)) ead_nil))) (by show 3 ≤ sizeLine; decide)).go fun v1 H9 e9 p9 => ?_
            · subst p1
              obtain ⟨ta, txs, rfl, t1, t2⟩ := dp_tup p2
              have t2 := dpa_ints (ns := [1, 3]) t2
              subst t2
              refine ⟨ta, _, rfl, .inr t1, rfl, rfl, q9 _ _ (Same.refl _) ?_⟩
              show V.bl (inV (.int kd) [.int 1, .int 3]) = V.bl false
              rw [in13 kd hkd]
            · have hex9 := e9 _ _ (e38 _ _ hex)
              refine ⟨ea, exs, v1, rfl, rfl, hex9, by rw [dpa_len hed, List.length_map, sizeLine_eq]; omega, ?_⟩
              have sT : SameT H9 (upd H9 ea (.lst (exs ++ [v1]))) := .lst hex9
              refine ⟨_, _, _, es ++ [(p.1, p.2, c)], rfl, same_mut (sm3.trans (e38.trans e9)) hide_self, upd_same, ?_, ?_, fun e he => ?_⟩
              · rw [List.map_append]
                exact dpa_snoc (dpa_sameT sT (noLs_map fun _ _ => rfl) (dpa_same (e38.trans e9) hed)) (dp_sameT sT rfl p9)
              · rw [take_next hp, List.map_append]
                exact sub.append (List.Sublist.refl _)
              · rcases List.mem_append.mp he with z | z
                · exact cj e z
                · have : e = (p.1, p.2, c) := by simpa using z
                  subst this
                  exact ⟨cne, c0, c1⟩
          · refine ⟨_, _, exs, es, rfl, sm3.trans (e7.trans e8), e8 _ _ (e7 _ _ hex), dpa_same (e7.trans e8) hed, ?_, cj⟩
            rw [take_next hp]
            exact sub.trans (List.sublist_append_left _ _)
        · obtain ⟨y10, y11, exs, es, rfl, sm3, hex, hed, sub, cj⟩ := pv'
          rw [List.take_length] at sub
          have s3 := (hide_of e56 nea).trans sm3
          refine s_end (Q := Q) (evd_tup (K := K) (ds := [.list (h.map PyData.int), .list (es.map edgeD)]) (ead_cons (evd_var rfl (dp_same (sm.trans s3) hfv)) (ead_cons (evd_var rfl (.lst (.inl (.inl hex)) hed)) ead_nil)) (by show 2 ≤ sizeLine; decide)) fun u H' e hd => q u H' h es (((e03.trans sm).trans s3).trans e) hd ⟨by omega, by omega, fun e he => ?_, ?_, cj, hb⟩
          · have := ok.lt _ (sub.subset (List.mem_map.mpr ⟨e, he, rfl⟩))
            exact ⟨this.1, by rw [hl]; exact this.2.1⟩
          · have := ok.asc.sublist sub
            rwa [List.pairwise_map] at this
end
end SFW

set_option maxRecDepth 100000
set_option maxHeartbeats 4000000
/-! # _law_order -/
namespace SFW
open PySem PySem.Spec PyProof.Rows L2
open SF (Poly)
abbrev sLO : Stmt := topS 46
abbrev nLO : List Str := ["_law_cell_here", "_law_count", "_law_left", "_law_found", "_law_digit"]
theorem scLO : FnScope nLO ["_law_cell_here", "_law_count"] (defScope sLO) := ⟨rfl, rfl, rfl, by decide +kernel, rfl, by decide +kernel, by decide +kernel⟩
theorem erase_map {α β : Type} (f : α → β) : ∀ (l : List α) (k : Nat), (l.map f).eraseIdx k = (l.eraseIdx k).map f
  | [], _ => rfl
  | _ :: _, 0 => rfl
  | a :: l, k + 1 => by
    rw [List.map_cons, List.eraseIdx_cons_succ, List.eraseIdx_cons_succ, List.map_cons, erase_map f l k]
theorem erase_perm {α : Type} : ∀ {l : List α} {k : Nat} (h : k < l.length), (l[k] :: l.eraseIdx k).Perm l
  | [], _, h => absurd h (Nat.not_lt_zero _)
  | _ :: _, 0, _ => List.Perm.refl _
  | a :: l, k + 1, h => by
    rw [List.eraseIdx_cons_succ, List.getElem_cons_succ]
    exact (List.Perm.swap a _ _).trans (List.Perm.cons a (erase_perm (by simpa using h)))
section
variable {P : Program} {w : World} {K : PySem.W.Frag} {mg : Str → Option Value} {base : Heap} {te : TE} {σ : L2.St} {H : Hp} {g : TG} {tb tz : TS} {D : Ends} {P1 : V → Hp → Prop}
theorem q_forL (h : EvP te σ H P1) (k : ∀ v H', Same H H' → P1 v H' → tSeq (tFor (iList K (tC v)) g tb) tz D σ H') : tSeq (tFor (iList K te) g tb) tz D σ H := h.go fun v H' e p => k v H' e p
def spLO (K : PySem.W.Frag) : Sp := fun vs H Q _ => ∃ (c : Int) (n : Nat), vs = [.int c, .int (n : Int)] ∧ n ≤ 6 ∧ ∀ u H' (order : List Nat), Same H H' → Dp K H' u (.list (order.map natD)) → order.Perm (List.range n) → Q u H'
theorem ok_LO {f fR : Addr} {fd fdR : FuncData} (F : Fun K "_law_order" "_law_order" sLO f fd) (mr : mg "range" = none) (ml : mg "len" = none) (mt : mg "list" = none)
    (GR : FnOk P w K mg base CX0 2 fR fdR ["_law_cell_here", "_law_count", "_law_bound"] (spRow K)) (gR : mg "_law_row" = some (.ref fR)) (kR : PySem.W.keepIn K (.ref fR) = true) (bR : Binds K fdR ["_law_cell_here", "_law_count", "_law_bound"] []) :
    FnOk P w K mg base CX0 3 f fd ["_law_cell_here", "_law_count"] (spLO K) := by
  refine F.ok scLO (fun vs H Q E h => ?_) (fun cdv A outer s H vs Q E hr h => ?_)
  · obtain ⟨c, n, rfl, _⟩ := h; rfl
  · obtain ⟨c, n, rfl, n6, q⟩ := h
    refine ⟨_, pss_cons (ps_set (i := 2) scLO.nd rfl (.inl rfl) (pe_listRg rfl (by rfl) mt (prg_1 (by rfl) mr (pv 1))))
      (pss_cons (ps_set (i := 3) scLO.nd rfl (.inl rfl) (pe_lst pa_nil))
      (pss_cons (ps_for PassesOwn.never rfl (by exact (pi_list (pe_call GR hr rfl gR kR bR .nil pass0 (pa_cons (pv 0) (pa_cons (pv 1) (pa_cons pe_int pa_nil)))))) (pg_name (i := 4) scLO.nd rfl (.inl rfl))
        (pss_one (ps_expr (by exact (pe_bm PySem.F.plainAttrs_list PySem.F.slot_list_append PySem.F.type_list_append mt_append (pv 3) (pa_cons (pe_bm PySem.F.plainAttrs_list PySem.F.slot_list_pop PySem.F.type_list_pop mt_popAt (pv 2)
          (pa_cons (pe_op op_mod (pv 4) (pe_callB call_len_seq (by rfl) ml b_len (pa_cons (pv 2) pa_nil))) pa_nil)) pa_nil))))))
      (pss_one (ps_ret (pv 3))))), ?_⟩
    refine q_set (evd_rangeL (n := n) (evv_var rfl) (by omega)) fun u H1 e1 p1 => ?_
    obtain ⟨la, rfl, nla, hla⟩ := p1
    refine q_set (evp_lstN (K := K) (ds := []) ead_nil (Nat.zero_le _)) fun u H2 e2 p2 => ?_
    obtain ⟨fa, x0, rfl, nfa1, hfa, hx⟩ := p2
    cases dpa_nil hx
    have nfa : H fa = none := e1.free nfa1
    have laf : la ≠ fa := ne_of_none hla nfa1
    refine q_forL (evp_row (n := n) (b := 60) (evp_var rfl fun H' e => ⟨c, rfl⟩) (evv_var rfl) evv_c (by omega) (by decide) (by decide)) fun u H3 e3 p3 => ?_
    obtain ⟨ds, hd, dl, db, ra, rfl, nra⟩ := p3
    have raf : ra ≠ fa := (ne_of_none hfa nra).symm
    have ral : ra ≠ la := (ne_of_none (e2 _ _ hla) nra).symm
    have hB : Same H (hide (hide H3 la) fa) := hide_of (hide_of ((e1.trans e2).trans e3) nla) nfa
    obtain ⟨ra', dxs, era, hd1, hd2⟩ := dp_lst hd
    cases era
    have hd2 := dpa_ints hd2
    subst hd2
    have hd1' : SqL K (hide (hide H3 la) fa) ra (ds.map V.int) := by
      rcases hd1 with (r | ⟨o, r⟩) | r
      · exact .inl (.inl (by rw [hide_ne raf, hide_ne ral]; exact r))
      · exact .inl (.inr ⟨o, by rw [hide_ne raf, hide_ne ral]; exact r⟩)
      · exact .inr r
    have noInt : ∀ l : List Int, noLs (l.map PyData.int) = true := fun l => noLs_map fun _ _ => rfl
    refine q_for (Hb := hide (hide H3 la) fa) (l := ds) (fun R r => ⟨ra, rfl, ⟨_, hd1⟩, r⟩) (walkL_list (K := K) hd1' (ints_dpa ds)).map
      (fun i σ' H' => ∃ y4 L fs, σ' = [some (.int c), some (.int (n : Int)), some (.ref la), some (.ref fa), y4] ∧ Same (hide (hide H3 la) fa) H' ∧ H' la = some (.lst ((L : List Nat).map fun (x : Nat) => V.int (x : Int))) ∧ H' fa = some (.lst ((fs : List Nat).map fun (x : Nat) => V.int (x : Int))) ∧ (fs ++ L).Perm (List.range n) ∧ fs.length = i)
      ⟨none, List.range n, [], rfl, hide_same.trans hide_same, ?_, e3 _ _ hfa, by rw [List.nil_append], rfl⟩ (fun i σ' H' ⟨_, _, _, _, sm, _⟩ => sm) (fun i d x σ' H' H'' hdi pv' e yd => ?_) (fun σ' H' pv' => ?_)
    · have := e3 _ _ (e2 _ _ hla)
      rw [this]
      unfold SF.rangeI
      rw [List.map_map]; rfl
    · obtain ⟨y4, L, fs, rfl, sm, hl, hf, perm, fl⟩ := pv'
      cases dp_int yd
      have hi : i < ds.length := (List.getElem?_eq_some_iff.mp hdi).1
      have pl := perm.length_eq
      rw [List.length_append, List.length_range] at pl
      have Lp : 0 < L.length := by omega
      refine ⟨_, rfl, .inl ⟨rfl, _, .inl (.inl (e _ _ hf))⟩, _, rfl, .inl ⟨rfl, _, .inl (.inl (e _ _ hl))⟩, ?_⟩
      have hLd : Dp K H'' (.ref la) (.list ((L.map fun (x : Nat) => (x : Int)).map PyData.int)) := ints_list (by rw [List.map_map]; exact e _ _ hl)
      refine (evv_mod (evv_var rfl) ((evv_lenL (evd_var (K := K) rfl hLd)).vis (by rw [List.length_map, List.length_map])) (show (0 : Int) < (L.length : Int) by omega)).go fun v H4 e4 p4 => ?_
      subst p4
      have m0 := Int.emod_nonneg d (show (L.length : Int) ≠ 0 by omega)
      have m1 := Int.emod_lt_of_pos d (show (0 : Int) < (L.length : Int) by omega)
      obtain ⟨k, hk⟩ : ∃ k : Nat, d % (L.length : Int) = (k : Int) := ⟨(d % (L.length : Int)).toNat, by rw [Int.toNat_of_nonneg m0]⟩
      rw [hk] at m1 ⊢
      have kl : k < L.length := by omega
      refine ⟨la, _, (k : Int), k, .int (L[k] : Int), rfl, rfl, e4 _ _ (e _ _ hl), by omega, by omega, ?_, by rw [List.getElem?_map, List.getElem?_eq_getElem kl]; rfl, ?_⟩
      · unfold seqIndex?
        rw [List.length_map, if_neg (show ¬ ((k : Int) < 0) by omega)]
        have : (decide (0 ≤ (k : Int)) && decide ((k : Int) < (L.length : Int))) = true := by simp; omega
        rw [if_pos this]
        simp
      · have hf4 : upd H4 la (.lst ((L.map fun (x : Nat) => V.int (x : Int)).eraseIdx k)) fa = some (.lst (fs.map fun (x : Nat) => V.int (x : Int))) := by rw [upd_ne laf.symm]; exact e4 _ _ (e _ _ hf)
        refine ⟨fa, _, _, rfl, rfl, hf4, by rw [List.length_map, sizeLine_eq]; omega, ?_⟩
        refine ⟨_, L.eraseIdx k, fs ++ [L[k]], rfl, ?_, ?_, ?_, ?_, by rw [List.length_append, fl]; rfl⟩
        · refine same_mut (fun b o hb => ?_) hide_self
          have b1 : b ≠ fa := fun z => by rw [z, hide_self] at hb; cases hb
          have b2 : b ≠ la := fun z => by rw [z, hide_ne laf, hide_self] at hb; cases hb
          rw [upd_ne b2]
          exact e4 _ _ (e _ _ (sm _ _ hb))
        · rw [upd_ne laf, upd_same, erase_map]
        · rw [upd_same, List.map_append]; rfl
        · refine List.Perm.trans ?_ perm
          rw [List.append_assoc]
          exact List.Perm.append_left fs (erase_perm kl)
    · obtain ⟨y4, L, fs, rfl, sm, hl, hf, perm, fl⟩ := pv'
      have pl := perm.length_eq
      rw [List.length_append, List.length_range] at pl
      have L0 : L = [] := List.eq_nil_of_length_eq_zero (by omega)
      subst L0
      rw [List.append_nil] at perm
      exact s_end (Q := Q) (evd_var (K := K) (d := .list (fs.map natD)) rfl (.lst (.inl (.inl hf)) (natsAll fs))) fun u H' e hd => q u H' fs ((hB.trans sm).trans e) hd perm
end
end SFW

set_option maxRecDepth 100000
set_option maxHeartbeats 4000000
/-! # _law_flat -/
namespace SFW
open PySem PySem.Spec PyProof.Rows L2
open SF (Poly)
abbrev sLF : Stmt := topS 47
abbrev nLF : List Str := ["_law_p", "_law_sums", "_law_a", "_law_b", "_law_number"]
theorem scLF : FnScope nLF ["_law_p"] (defScope sLF) := ⟨rfl, rfl, rfl, by decide +kernel, rfl, by decide +kernel, by decide +kernel⟩
abbrev kz (p : PE3) : L2.Key × V := (Sum.inl p.2.1.1, V.int p.2.2)
theorem kz_look : ∀ {t : List PE3} (a : Int), (∀ p ∈ t, p.2.1.2 = 0) → valV (t.map kz) (Sum.inl a) = (lookE t (a, 0)).map V.int
  | [], a, _ => rfl
  | p :: t, a, h => by
    have hp := h p List.mem_cons_self
    have ih := kz_look (t := t) a fun q hq => h q (List.mem_cons_of_mem _ hq)
    by_cases e : p.2.1.1 = a
    · have e' : p.2.1 = (a, 0) := Prod.ext e hp
      rw [List.map_cons, valV_pos (show (kz p).1 = Sum.inl a by rw [← e])]
      simp [lookE, e']
    · have e' : ¬ p.2.1 = (a, 0) := fun z => e (by rw [z])
      rw [List.map_cons, valV_neg (show ¬ (kz p).1 = Sum.inl a from fun z => e (Sum.inl.inj z)), ih]
      simp [lookE, e']
theorem kz_put {t : List PE3} (a c : Int) (h : ∀ p ∈ t, p.2.1.2 = 0) : putK (t.map kz) (Sum.inl a) (.int c) = (putE t 0 (a, 0) c).map kz := by
  unfold putK putE
  rw [valV_any, kz_look a h]
  cases hl : lookE t (a, 0) with
  | none => simp [kz]
  | some v =>
    simp only [Option.map_some, Option.isSome_some, if_true, List.map_map]
    refine List.map_congr_left fun p hp => ?_
    have hp2 := h p hp
    by_cases e : p.2.1.1 = a
    · have e' : p.2.1 = (a, 0) := Prod.ext e hp2
      simp [Function.comp, e']
    · have e' : ¬ p.2.1 = (a, 0) := fun z => e (by rw [z])
      simp [Function.comp, e, e']
theorem putE_mem {t : List PE3} {a c : Int} {p : PE3} (h : p ∈ putE t 0 (a, 0) c) : p.2.1 = (a, 0) ∨ ∃ q ∈ t, p.2.1 = q.2.1 := by
  unfold putE at h
  split at h
  · obtain ⟨q, hq, rfl⟩ := List.mem_map.mp h
    refine .inr ⟨q, hq, ?_⟩
    split <;> rfl
  · rcases List.mem_append.mp h with z | z
    · exact .inr ⟨p, z, rfl⟩
    · have : p = (0, (a, 0), c) := by simpa using z
      exact .inl (by rw [this])
structure FInv (p : Poly) (i : Nat) (t : List PE3) : Prop where
  z : ∀ x ∈ t, x.2.1.2 = 0
  b : ∀ x ∈ t, -30 ≤ x.2.1.1 ∧ x.2.1.1 ≤ 30
  nd : (t.map (·.2.1)).Nodup
  ev : ∀ f, SF.ev (pol t) f = SF.ev ((p.take i).map fun x => ((x.1.1, (0 : Int)), x.2)) f
theorem FInv.next {p : Poly} {i : Nat} {t : List PE3} {x : (Int × Int) × Int} (h : FInv p i t) (hx : p[i]? = some x) (hb : -30 ≤ x.1.1 ∧ x.1.1 ≤ 30) : FInv p (i + 1) (putE t 0 (x.1.1, 0) ((lookE t (x.1.1, 0)).getD 0 + x.2)) where
  z := fun y hy => by
    rcases putE_mem hy with e | ⟨q, hq, e⟩
    · rw [e]
    · rw [e]; exact h.z q hq
  b := fun y hy => by
    rcases putE_mem hy with e | ⟨q, hq, e⟩
    · rw [e]; exact hb
    · rw [e]; exact h.b q hq
  nd := putE_keys t 0 _ _ h.nd
  ev := fun f => by
    rw [putE_ev f t 0 _ _ h.nd, h.ev f, take_next hx, List.map_append, SF.ev_append]
    simp
theorem FInv.len {p : Poly} {i : Nat} {t : List PE3} (h : FInv p i t) : t.length ≤ 61 := by
  have h1 : (t.map fun x => x.2.1.1).length ≤ 61 := SF.nodup_bd (-30) 61 _ (by
    have := h.nd
    rw [List.Nodup, List.pairwise_map] at this ⊢
    refine this.imp_of_mem fun {a b} ha hb n e => n (Prod.ext e ((h.z a ha).trans (h.z b hb).symm))) fun x hx => by
    obtain ⟨y, hy, rfl⟩ := List.mem_map.mp hx
    have := h.b y hy
    omega
  rwa [List.length_map] at h1
theorem asc_of {t' : List PE3} (z : ∀ x ∈ t', x.2.1.2 = 0) (nd : (t'.map (·.2.1)).Nodup) (asc : (t'.map fun x => x.2.1.1).Pairwise (· ≤ ·)) : t'.Pairwise fun x y => SF.lt2 x.2.1 y.2.1 := by
  rw [List.Nodup, List.pairwise_map] at nd
  rw [List.pairwise_map] at asc
  refine (nd.and asc).imp_of_mem fun {a b} ha hb ⟨n, l⟩ => ?_
  refine .inl ?_
  have : a.2.1.1 ≠ b.2.1.1 := fun e => n (Prod.ext e ((z a ha).trans (z b hb).symm))
  omega
section
variable {P : Program} {w : World} {K : PySem.W.Frag} {mg : Str → Option Value} {base : Heap} {te : TE} {σ : L2.St} {H : Hp}
def spLF (K : PySem.W.Frag) : Sp := fun vs H Q _ => ∃ (v : V) (p : Poly), vs = [v] ∧ Dp K H v (polyD p) ∧ (∀ t ∈ p, -30 ≤ t.1.1 ∧ t.1.1 ≤ 30) ∧ ∀ u H', Same H H' → Dp K H' u (polyD (SF.flatP p)) → Q u H'
theorem ok_LF {f : Addr} {fd : FuncData} (F : Fun K "_law_flat" "_law_flat" sLF f fd) (mt : mg "tuple" = none) (ms : mg "sorted" = none) : FnOk P w K mg base CX0 1 f fd ["_law_p"] (spLF K) := by
  refine F.ok scLF (fun vs H Q E h => ?_) (fun cdv A outer s H vs Q E hr h => ?_)
  · obtain ⟨v, p, rfl, _⟩ := h; rfl
  · obtain ⟨v, p, rfl, hv, hb, q⟩ := h
    have hu := hu_of hr
    refine ⟨_, pss_cons (ps_set (i := 1) scLF.nd rfl (.inr rfl) pe_dnewK)
      (pss_cons (ps_for PassesOwn.never rfl (pi_tup (pv 0)) (by exact (pg_tup rfl (pgs_cons (pg_tup rfl (pgs_cons (pg_name (i := 2) scLF.nd rfl (.inl rfl)) (pgs_cons (pg_name (i := 3) scLF.nd rfl (.inl rfl)) pgs_nil))) (pgs_cons (pg_name (i := 4) scLF.nd rfl (.inl rfl)) pgs_nil))))
        (pss_one (ps_dput hu (pv 1) (pv 2) (by exact (pe_op op_add (pe_dget2 hu (pv 1) (pv 2) pe_int ⟨rfl, rfl, rfl, rfl⟩) (pv 4))) rfl)))
      (pss_one (ps_ret (pe_callTy call_tuple_of (by rfl) mt b_tuple (pa_cons (pe_lc (own := [("_law_a", 2)]) (g := gName 2) (tt := tTest (tOp rNe (tDGet (tVar 1) (tVar 2)) (tC (.int 0)))) (te := tTup (tCons (tTup (tCons (tVar 2) (tCons (tC (.int 0)) tNil))) (tCons (tDGet (tVar 1) (tVar 2)) tNil))) rfl scLF.nd (pi_list (pe_callB (call_sortedDI rfl) (by rfl) ms b_sorted (pa_cons (pv 1) pa_nil)))
        (blkOk_by (N := nLF) (sc := defScope sLF) (by decide +kernel)) (fun _ _ _ _ _ => pg_name (i := 2) scLF.nd rfl (.inl rfl)) (fun _ _ _ _ _ => pts_one (pt_cmpR op_ne (pe_dget hu (pv 1) (pv 2) (fun _ _ => rfl)) pe_int (nomark _)))
        (fun _ _ _ _ _ => pe_tup (pa_cons (pe_tup (pa_cons (pv 2) (pa_cons pe_int pa_nil))) (pa_cons (pe_dget hu (pv 1) (pv 2) (fun _ _ => rfl)) pa_nil)))) pa_nil))))), ?_⟩
    refine q_set (P := fun u H' => ∃ a, u = .ref a ∧ H a = none ∧ H' a = some (.dK [])) (fun H1 e1 Q q a na => q _ _ (same_new na) ⟨a, rfl, e1.free na, upd_same⟩) fun u H1 e1 p1 => ?_
    obtain ⟨sa, rfl, nsa, hsa⟩ := p1
    obtain ⟨pa, pxs, rfl, hp1, hp2⟩ := dp_tup hv
    refine q_for (Hb := H) (l := p) (fun R r => ⟨_, rfl, pa, rfl, ⟨_, sqt_same e1 hp1⟩, r⟩) (walkL_tup (K := K) hp1 hp2).map
      (fun i σ' H' => ∃ y2 y3 y4 t, σ' = [some (.ref pa), some (.ref sa), y2, y3, y4] ∧ Same H H' ∧ H' sa = some (.dK (t.map kz)) ∧ FInv p i t)
      ⟨none, none, none, [], rfl, e1, hsa, ⟨fun x hx => (nomatch hx), fun x hx => (nomatch hx), .nil, fun f => rfl⟩⟩ (fun i σ' H' ⟨_, _, _, _, _, sm, _⟩ => sm) (fun i x y σ' H' H'' hx pv' e yd => ?_) (fun σ' H' pv' => ?_)
    · obtain ⟨y2, y3, y4, t, rfl, sm, hs, I⟩ := pv'
      obtain ⟨ra, xe, xc, rfl, g1, g2, g3⟩ := dp_pair yd
      obtain ⟨ea, g4⟩ := dp_ex (a := x.1.1) (b := x.1.2) g2
      obtain ⟨rfl, g4⟩ := g4
      cases dp_int g3
      have hs2 := e _ _ hs
      have tl := I.len
      refine ⟨ra, _, rfl, g1, rfl, _, _, rfl, ⟨ea, _, rfl, g4, rfl, _, _, rfl, _, _, rfl, rfl, _, _, rfl, rfl, ?_⟩⟩
      refine ⟨_, rfl, sa, rfl, .inl ⟨_, .inl hs2⟩, _, rfl, _, DGet.k (k := Sum.inl x.1.1) hs2, ?_⟩
      rw [kz_look _ I.z]
      have eg : ((lookE t (x.1.1, 0)).map V.int).getD (V.int 0) = V.int ((lookE t (x.1.1, 0)).getD 0) := by cases lookE t (x.1.1, 0) <;> rfl
      rw [eg]
      refine ⟨_, rfl, _, _, rfl, rfl, _, rfl, _, rfl, sa, _, rfl, DPut.k (k := Sum.inl x.1.1) hs2 (by rw [List.length_map, sizeLine_eq]; omega), ?_⟩
      rw [kz_put _ _ I.z]
      exact ⟨_, _, _, _, rfl, same_mut (sm.trans e) nsa, upd_same, I.next hx (hb x (List.mem_of_getElem? hx))⟩
    · obtain ⟨y2, y3, y4, t, rfl, sm, hs, I⟩ := pv'
      have tl := I.len
      refine (evd_tupleL (K := K) (ds := (SF.flatP p).map termD) ?_).go fun u H' e hd => q u H' (sm.trans e) hd
      intro H1 e1 Q1 q1
      refine ⟨.ref sa, rfl, sa, t.map kz, t.map fun x => x.2.1.1, rfl, .inl (e1 _ _ hs), by rw [List.map_map, List.map_map]; rfl, by rw [List.length_map]; omega, fun ys r perm asc nr => ?_⟩
      obtain ⟨t', perm', rfl⟩ := perm_map_back _ perm
      have z' : ∀ x ∈ t', x.2.1.2 = 0 := fun x hx => I.z x (perm'.mem_iff.mp hx)
      have nd' : (t'.map (·.2.1)).Nodup := (perm'.map _).nodup_iff.mpr I.nd
      have asc' := asc_of z' nd' asc
      have ef : SF.flatP p = (t'.filter fun x => decide (x.2.2 ≠ 0)).map (·.2) := by
        rw [← gath_cf I.nd perm' asc']
        unfold SF.flatP
        refine SF.cf_eq fun f => ?_
        rw [I.ev f, List.take_length]
      refine ⟨r, rfl, ⟨_, .inl (.inl upd_same)⟩, fun D nD => ?_⟩
      have e2 : Same H1 (upd H1 r (.lst ((t'.map fun x => x.2.1.1).map V.int))) := same_new nr
      have W : WalkL (Itl K r) t' (upd H1 r (.lst ((t'.map fun x => x.2.1.1).map V.int))) (fun e x _ => x = V.int e.2.1.1) (fun H' => SqL K H' r ((t'.map fun x => x.2.1.1).map V.int)) (YAt ((t'.map fun x => x.2.1.1).map V.int)) := by
        refine ⟨by have := walk_list (K := K) (a := r) (xs := (t'.map fun x => x.2.1.1).map V.int); rwa [List.length_map, List.length_map] at this, fun H3 e3 => .inl (.inl (e3 _ _ upd_same)), fun i a H3 x H4 ha e3 y => ?_⟩
        obtain ⟨rfl, hx⟩ := y
        rw [List.map_map] at hx
        obtain ⟨e, he, rfl⟩ := map_at hx
        rw [ha] at he; cases he
        exact ⟨Same.refl _, rfl⟩
      have hl' : t'.length < sizeLine := by rw [perm'.length_eq, sizeLine_eq]; omega
      refine lc_run W nD hl' (fun x => decide (x.2.2 ≠ 0)) (fun x v H' => Dp K H' v (termD x.2)) (fun i v H2 H3 e h => dp_sameT e rfl h) (fun e0 x H' hm e y R k => ?_) fun H' xs sm' hD pr => ?_
      · subst y
        have et := perm'.mem_iff.mp hm
        have z0 := I.z e0 et
        have e0' : e0.2.1 = (e0.2.1.1, 0) := Prod.ext rfl z0
        have lk : valV (t.map kz) (Sum.inl e0.2.1.1) = some (.int e0.2.2) := by
          rw [kz_look _ I.z, ← e0', lookE_mem I.nd et]; rfl
        have sall := e1.trans (e2.trans e)
        have ev : ∀ H2, Same H' H2 → EvV (tDGet (tVar 1) (tVar 2)) ((wipe [some (.ref pa), some (.ref sa), y2, y3, y4] [2]).set 2 (some (.int e0.2.1.1))) H2 (.int e0.2.2) := fun H2 e2' H3 e3 Q2 q2 =>
          ⟨_, rfl, _, rfl, sa, _, rfl, .inl ⟨_, Sum.inl e0.2.1.1, .inl (e3 _ _ (e2' _ _ (sall _ _ hs))), rfl, lk.symm⟩, q2 _ _ (Same.refl _) rfl⟩
        refine k _ (wipe_set1 _ _ _) (.is (evb_test (evv_ne (ev H' (Same.refl _)) evv_c)) (by simp [V.int.injEq])) fun _ => ?_
        have := evd_tup (K := K) (H := H') (σ := (wipe [some (.ref pa), some (.ref sa), y2, y3, y4] [2]).set 2 (some (.int e0.2.1.1))) (ds := [.tuple [.int e0.2.1.1, .int 0], .int e0.2.2]) (ead_cons (evd_tup (ead_cons (evv_d (evv_var (i := 2) rfl)) (ead_cons evd_int ead_nil)) (by show 2 ≤ sizeLine; decide)) (ead_cons (evv_d (ev H' (Same.refl _))) ead_nil)) (by show 2 ≤ sizeLine; decide)
        have et2 : termD e0.2 = .tuple [.tuple [.int e0.2.1.1, .int 0], .int e0.2.2] := by
          show PyData.tuple [exD e0.2.1, .int e0.2.2] = _
          rw [e0']
        rw [et2]
        exact this
      · refine q1 _ _ (e2.trans sm') (.lst (.inl (.inl hD)) ?_)
        have := dpa_paired (K := K) (H := H') (d := fun x : PE3 => termD x.2) pr
        rw [ef, List.map_map]; exact this
end
end SFW

set_option maxRecDepth 100000
set_option maxHeartbeats 1000000
/-! # law: its reading -/
namespace SFW
open PySem PySem.Spec PyProof.Rows L2
open SF (Poly)
abbrev sLaw : Stmt := topS 48
abbrev nLaw : List Str := ["_law_script", "_law_fields", "_law_edges", "_law_count", "_law_spins_here", "_law_whole", "_law_order_here", "_law_numbers", "_law_downs", "_law_alls", "_law_flat_here", "e", "_law_key", "_law_number", "_law_a", "_law_b"]
theorem scLaw : FnScope nLaw ["_law_script"] (defScope sLaw) := ⟨rfl, rfl, rfl, by decide +kernel, rfl, by decide +kernel, by decide +kernel⟩
def spLaw (K : PySem.W.Frag) : Sp := fun vs H Q _ => ∃ (a : Addr) (ns : List Int), vs = [.ref a] ∧ SqL K H a (ns.map V.int) ∧ ns.length ≤ 63 ∧ ∀ H', Q (.bl true) H'
theorem pss_false {X : Cx} {st : List Stmt} : PSs X st (fun _ _ _ => False) := ⟨fun _ _ _ _ _ _ h => h.elim⟩
/-- what the suite asks, where the error is a HasField -/
def tsE (K : PySem.W.Frag) (CH a : Addr) : TS := tRet (tAndV (tCB (rIsE K CH a) (tCons (tVar 11) (tCons (tC (.ref CH)) tNil))) (tOp (rNeD K) (tCB (rSorted K) (tCons (tVar 1) tNil)) (tOp rRep (tLst (tCons (tC (.int 0)) tNil)) (tVar 3))))
def tsX (K : PySem.W.Frag) (CH : Addr) : Addr → Value → Option Addr → TS := fun a cls d => if (cls == Value.ref CH && d.isNone) = true then tsE K CH a else fun _ _ _ => False
section
variable {P : Program} {w : World} {K : PySem.W.Frag} {mg : Str → Option Value} {base : Heap} {C CH CF : Addr}
theorem evp_min {te : TE} {σ : L2.St} {H : Hp} {ns : List Int} (h : EvD K te σ H (.list (ns.map PyData.int))) (ne : 0 < ns.length) : EvP (tCB (rMin K) (tCons te tNil)) σ H fun v _ => ∃ m, v = .int m ∧ m ∈ ns := fun H1 e1 Q q => h H1 e1 _ fun v H2 e2 p2 => by
  obtain ⟨a, xs, rfl, h1, h2⟩ := dp_lst p2
  rw [dpa_ints h2] at h1
  exact ⟨a, ns, rfl, h1, ne, fun m hm _ => q _ _ e2 ⟨m, rfl, hm⟩⟩
theorem evd_slice {te : TE} {σ : L2.St} {H : Hp} {ds : List PyData} (h : EvD K te σ H (.list ds)) (n : Nat) : EvD K (tSl (rSlL K) te tNoPart (tPart (tC (.int (n : Int))))) σ H (.list (ds.take n)) := fun H1 e1 Q q => h H1 e1 _ fun v H2 e2 p2 => by
  obtain ⟨a, xs, rfl, h1, h2⟩ := dp_lst p2
  refine ⟨_, rfl, a, xs, rfl, h1, fun p np => q _ _ (e2.trans (same_new np)) ?_⟩
  have ec : cutV xs none (some (n : Int)) = xs.take n := by
    unfold cutV
    rw [HT.sIx_none, show HT.sIx xs.length xs.length (some (n : Int)) = min n xs.length from HT.sIx_nat _ _ _, List.drop_zero, Nat.sub_zero]
    by_cases hn : n ≤ xs.length
    · rw [Nat.min_eq_left hn]
    · rw [Nat.min_eq_right (by omega), List.take_length, List.take_of_length_le (by omega)]
  rw [ec]
  exact .lst (.inl (.inl upd_same)) (dpa_same (same_new np) (dpa_take n h2))
theorem evd_sorted {te : TE} {σ : L2.St} {H : Hp} {h ys : List Int} (ht : EvD K te σ H (.list (h.map PyData.int))) (hl : h.length < 64) (pm : ys.Perm h) (asc : ys.Pairwise (· ≤ ·)) : EvD K (tCB (rSorted K) (tCons te tNil)) σ H (.list (ys.map PyData.int)) := fun H1 e1 Q q => ht H1 e1 _ fun v H2 e2 p2 => by
  obtain ⟨a, xs, rfl, h1, h2⟩ := dp_lst p2
  rw [dpa_ints h2] at h1
  refine ⟨a, h, rfl, h1, by omega, fun ns p pm2 asc2 np => ?_⟩
  have en : ns = ys := asc_uniq (pm2.trans pm.symm) asc2 asc
  subst en
  exact q _ _ (e2.trans (same_new np)) (ints_list upd_same)
theorem sorted_ex (h : List Int) : ∃ ys : List Int, ys.Perm h ∧ ys.Pairwise (· ≤ ·) :=
  ⟨h.mergeSort fun a b => decide (a ≤ b), List.mergeSort_perm _ _, (List.pairwise_mergeSort (le := fun a b => decide (a ≤ b)) (fun a b c h1 h2 => by simp only [decide_eq_true_eq] at *; omega) (fun a b => by simp only [Bool.or_eq_true, decide_eq_true_eq]; omega) h).imp fun h => by simpa using h⟩
theorem eqvAll_self {α : Type} {f : α → PyData} (h : ∀ a, PyData.eqv (f a) (f a) = true) : ∀ l : List α, PyData.eqvAll (l.map f) (l.map f) = true
  | [] => rfl
  | a :: l => by rw [List.map_cons, PyData.eqvAll, h a, eqvAll_self h l]; rfl
abbrev acD (x : Int × Int) : PyData := .tuple [.int x.1, .int x.2]
theorem eqv_term (t : (Int × Int) × Int) : PyData.eqv (termD t) (termD t) = true := by simp [termD, exD, PyData.eqv, PyData.eqvAll]
theorem eqv_ac (x : Int × Int) : PyData.eqv (acD x) (acD x) = true := by simp [PyData.eqv, PyData.eqvAll]
theorem eqv_poly (p : Poly) : PyData.eqv (polyD p) (polyD p) = true := by
  show PyData.eqv (.tuple (p.map termD)) (.tuple (p.map termD)) = true
  rw [PyData.eqv]
  exact eqvAll_self eqv_term p
theorem eqv_acs (l : List (Int × Int)) : PyData.eqv (.list (l.map acD)) (.list (l.map acD)) = true := by
  rw [PyData.eqv]
  exact eqvAll_self eqv_ac l
theorem shaped_acs (l : List (Int × Int)) : SeqAt.shaped (.list (l.map acD)) = true := by
  have h1 := lay_map (f := acD) (fun _ => rfl) l
  have h2 := dep_map (f := acD) (n := 1) (fun _ => by show (max 0 (max 0 0)) + 1 ≤ 1; decide) l
  unfold SeqAt.shaped
  rw [PyData.canLay0, h1, PyData.depth]
  simp; omega
structure LawMg (mg : Str → Option Value) : Prop where
  len : mg "len" = none
  isi : mg "isinstance" = none
  tup : mg "tuple" = none
  min : mg "min" = none
  sum : mg "sum" = none
  srt : mg "sorted" = none
theorem ok_law {f fC fS fI fT fU fO fR fG fL fF : Addr} {fd fdC fdS fdI fdT fdU fdO fdR fdG fdL fdF : FuncData} (F : Fun K "law" "law" sLaw f fd) (m : LawMg mg) (T : SpinTxt K C)
    (GC : FnOk P w K mg base CX0 1 fC fdC ["_law_script", "_law_k"] (spCell K)) (gC : mg "_law_cell" = some (.ref fC)) (kC : PySem.W.keepIn K (.ref fC) = true) (bC : Binds K fdC ["_law_script", "_law_k"] [])
    (GS : FnOk P w K mg base CX0 3 fS fdS ["_law_script", "_law_first", "_law_most", "_law_kind"] (spLS K)) (gS : mg "_law_spins" = some (.ref fS)) (kS : PySem.W.keepIn K (.ref fS) = true) (bS : Binds K fdS ["_law_script", "_law_first", "_law_most", "_law_kind"] [])
    (M : Mk K C fI) (GI : FnOk P w K mg base CX0 1 fI fdI ["self", "fields", "edges"] (spSpinI K C)) (gI : mg "Spins" = some (.ref C)) (bI : Binds K fdI ["self", "fields", "edges"] [])
    (GT : FnOk P w K mg base CX0 3 fT fdT ["spins"] (spSum K C)) (gT : mg "sum_by_states" = some (.ref fT)) (kT : PySem.W.keepIn K (.ref fT) = true) (bT : Binds K fdT ["spins"] [])
    (GU : FnOk P w K mg base CX0 4 fU fdU ["_law_thing"] (spTuples K 4)) (gU : mg "_law_tuples" = some (.ref fU)) (kU : PySem.W.keepIn K (.ref fU) = true) (bU : Binds K fdU ["_law_thing"] [])
    (GO : FnOk P w K mg base CX0 3 fO fdO ["_law_cell_here", "_law_count"] (spLO K)) (gO : mg "_law_order" = some (.ref fO)) (kO : PySem.W.keepIn K (.ref fO) = true) (bO : Binds K fdO ["_law_cell_here", "_law_count"] [])
    (GR : FnOk P w K mg base CX0 4 fR fdR ["spins", "order"] (spTrans K C)) (gR : mg "sum_by_transfer" = some (.ref fR)) (kR : PySem.W.keepIn K (.ref fR) = true) (bR : Binds K fdR ["spins", "order"] [])
    (GG : FnOk P w K mg base CX0 6 fG fdG ["spins"] (spSum K C)) (gG : mg "sum_by_clusters" = some (.ref fG)) (kG : PySem.W.keepIn K (.ref fG) = true) (bG : Binds K fdG ["spins"] [])
    (GL : FnOk P w K mg base (L2.CX P w) 5 fL fdL ["spins"] (spLoops K C CH)) (gL : mg "sum_by_loops" = some (.ref fL)) (kL : PySem.W.keepIn K (.ref fL) = true) (bL : Binds K fdL ["spins"] [])
    (GF : FnOk P w K mg base CX0 1 fF fdF ["_law_p"] (spLF K)) (gF : mg "_law_flat" = some (.ref fF)) (kF : PySem.W.keepIn K (.ref fF) = true) (bF : Binds K fdF ["_law_p"] [])
    (gFE : mg "FieldError" = some (.ref CF)) (gHF : mg "HasField" = some (.ref CH)) (eC : ExcC K CH) (hex : PySem.W.exmOne K (.ref CH) (.ref CF) = some true) (hkit : PySem.W.kitOne K (.ref CH) (.ref CH) = some true) :
    FnOk P w K mg base CX0 7 f fd ["_law_script"] (spLaw K) := by
  refine F.ok scLaw (fun vs H Q E h => ?_) (fun cdv A outer s H vs Q E hr h => ?_)
  · obtain ⟨a, ns, rfl, _⟩ := h; rfl
  · obtain ⟨a, ns, rfl, hS, hl, q⟩ := h
    have hr1 : Room (0 + 1) _ := hr.mono (by decide)
    have hr11 : Room (1 + 1) _ := hr.mono (by decide)
    have hr3 : Room 3 _ := hr.mono (by decide)
    have hr4 : Room 4 _ := hr.mono (by decide)
    have hr5 : Room 5 _ := hr.mono (by decide)
    refine ⟨_, pss_cons (ps_asg (by exact (pe_call GS hr3 rfl gS kS bS .nil pass0 (pa_cons (pv 0) (pa_cons pe_int (pa_cons pe_int (pa_cons (pe_op op_mul pe_int (pe_op op_mod (pe_call GC hr1 rfl gC kC bC .nil pass0 (pa_cons (pv 0) (pa_cons pe_int pa_nil))) pe_int)) pa_nil)))))) (pg_tup (by rfl) (pgs_cons (pg_name (i := 1) scLaw.nd rfl (.inl rfl)) (pgs_cons (pg_name (i := 2) scLaw.nd rfl (.inl rfl)) pgs_nil))))
      (pss_cons (ps_set (i := 2) scLaw.nd rfl (.inl rfl) (pe_slice sl_list (pv 2) po_none (po_some pe_int)))
      (pss_cons (ps_set (i := 3) scLaw.nd rfl (.inr rfl) (pe_callB call_len_seq (by rfl) m.len b_len (pa_cons (pv 1) pa_nil)))
      (pss_cons (ps_set (i := 4) scLaw.nd rfl (.inl rfl) (by exact (pe_make M GI hr11 rfl gI bI .nil pass0 (pa_cons (pv 1) (pa_cons (pv 2) pa_nil)))))
      (pss_cons (ps_set (i := 5) scLaw.nd rfl (.inl rfl) (by exact (pe_call GT hr3 rfl gT kT bT .nil pass0 (pa_cons (pv 4) pa_nil))))
      (pss_cons (ps_if (PW.pt (pw_or (pt_not (pt_val (pe_callB call_isi (by rfl) m.isi b_isi (pa_cons (pv 5) (pa_cons (pe_bltn (v := .ty "tuple") (by rfl) m.tup b_tuple rfl) pa_nil))))) (pw_or1 (pt_not (pt_val (by exact (pe_call GU hr4 rfl gU kU bU .nil pass0 (pa_cons (pv 5) pa_nil)))))))) (pss_one (ps_ret pe_bl)) pss_nil)
      (pss_cons (ps_set (i := 6) scLaw.nd rfl (.inl rfl) (by exact (pe_call GO hr3 rfl gO kO bO .nil pass0 (pa_cons (pe_call GC hr1 rfl gC kC bC .nil pass0 (pa_cons (pv 0) (pa_cons pe_int pa_nil))) (pa_cons (pv 3) pa_nil)))))
      (pss_cons (ps_if (PW.pt (pw_or (pt_cmpR (op_neD hr.units) (by exact (pe_call GR hr4 rfl gR kR bR .nil pass0 (pa_cons (pv 4) (pa_cons (pv 6) pa_nil)))) (pv 5) (nomark _)) (pw_or1 (pt_cmpR (op_neD hr.units) (by exact (pe_call GG hr rfl gG kG bG .nil pass0 (pa_cons (pv 4) pa_nil))) (pv 5) (nomark _))))) (pss_one (ps_ret pe_bl)) pss_nil)
      (pss_cons (ps_setLc (i := 7) (own := [("_law_key", 12), ("_law_number", 13)]) (g := gTup K 2 (gCons (gName 12) (gCons (gName 13) gNil))) (tt := tYes) (te := tVar 13) rfl scLaw.nd rfl rfl (sw_true rfl rfl rfl (by decide +kernel)) (pi_tup (pv 5)) (blkOk_by (N := nLaw) (sc := defScope sLaw) (by decide +kernel))
          (fun _ _ _ _ _ => pg_tup rfl (pgs_cons (pg_name (i := 12) scLaw.nd rfl (.inl rfl)) (pgs_cons (pg_name (i := 13) scLaw.nd rfl (.inl rfl)) pgs_nil))) (fun _ _ _ _ _ => pts_nil) (fun _ _ _ _ _ => pv 13))
      (pss_cons (ps_if (PW.pt (pw_or (pt_cmpR op_lt (pe_callB (cr_min rfl) (by rfl) m.min b_min (pa_cons (pv 7) pa_nil)) pe_int (nomark _)) (pw_or1 (pt_cmpR op_ne (pe_callB (cr_sum rfl) (by rfl) m.sum b_sum (pa_cons (pv 7) pa_nil)) (pe_op op_shl pe_int (pv 3)) (nomark _))))) (pss_one (ps_ret pe_bl)) pss_nil)
      (pss_cons (ps_setLc (i := 8) (own := [("_law_a", 14), ("_law_b", 15), ("_law_number", 13)]) (g := gTup K 2 (gCons (gTup K 2 (gCons (gName 14) (gCons (gName 15) gNil))) (gCons (gName 13) gNil))) (tt := tTest (tOp rEq (tVar 15) (tC (.int 0)))) (te := tTup (tCons (tVar 14) (tCons (tVar 13) tNil))) rfl scLaw.nd rfl rfl (sw_true rfl rfl rfl (by decide +kernel)) (pi_tup (pv 5)) (blkOk_by (N := nLaw) (sc := defScope sLaw) (by decide +kernel))
          (fun _ _ _ _ _ => pg_tup rfl (pgs_cons (pg_tup rfl (pgs_cons (pg_name (i := 14) scLaw.nd rfl (.inl rfl)) (pgs_cons (pg_name (i := 15) scLaw.nd rfl (.inl rfl)) pgs_nil))) (pgs_cons (pg_name (i := 13) scLaw.nd rfl (.inl rfl)) pgs_nil))) (fun _ _ _ _ _ => pts_one (pt_cmpR op_eq (pv 15) pe_int (nomark _))) (fun _ _ _ _ _ => pe_tup (pa_cons (pv 14) (pa_cons (pv 13) pa_nil))))
      (pss_cons (ps_setLc (i := 9) (own := [("_law_a", 14), ("_law_b", 15), ("_law_number", 13)]) (g := gTup K 2 (gCons (gTup K 2 (gCons (gName 14) (gCons (gName 15) gNil))) (gCons (gName 13) gNil))) (tt := tTest (tOp rEq (tVar 15) (tVar 3))) (te := tTup (tCons (tVar 14) (tCons (tVar 13) tNil))) rfl scLaw.nd rfl rfl (sw_true rfl rfl rfl (by decide +kernel)) (pi_tup (pv 5)) (blkOk_by (N := nLaw) (sc := defScope sLaw) (by decide +kernel))
          (fun _ _ _ _ _ => pg_tup rfl (pgs_cons (pg_tup rfl (pgs_cons (pg_name (i := 14) scLaw.nd rfl (.inl rfl)) (pgs_cons (pg_name (i := 15) scLaw.nd rfl (.inl rfl)) pgs_nil))) (pgs_cons (pg_name (i := 13) scLaw.nd rfl (.inl rfl)) pgs_nil))) (fun _ _ _ _ _ => pts_one (pt_cmpR op_eq (pv 15) (pv 3) (nomark _))) (fun _ _ _ _ _ => pe_tup (pa_cons (pv 14) (pa_cons (pv 13) pa_nil))))
      (pss_cons (ps_if (PW.pt (pw_or (pt_cmpR (op_neD hr.units) (pv 8) (pe_lst (pa_cons (pe_tup (pa_cons pe_int (pa_cons pe_int pa_nil))) pa_nil)) (nomark _)) (pw_or1 (pt_cmpR (op_neD hr.units) (pv 9) (pe_lst (pa_cons (pe_tup (pa_cons (pe_callB (cr_sum rfl) (by rfl) m.sum b_sum (pa_cons (pv 1) pa_nil)) (pa_cons pe_int pa_nil))) pa_nil)) (nomark _))))) (pss_one (ps_ret pe_bl)) pss_nil)
      (pss_cons (ps_try_as (i := 11) (ts := tsX K CH) (tb := fun W => tAsg (tCallS (spLoops K C CH) (WE W) (tCons (tVar 4) tNil)) (gName 10)) rfl rfl scLaw.nd rfl rfl ⟨rfl, by decide, .inl gFE⟩ takes0
          (fun W pn xe tk _ => pss_one (ps_set (i := 10) scLaw.nd rfl (.inl rfl) (by exact (pe_callS (E := WE W) GL hr5 rfl gL kL bL (passAt tk) (pa_cons (pv 4) pa_nil)))))
          (fun a oe cls d pn hz hf => by
            unfold tsX
            split
            · next hc =>
              rw [Bool.and_eq_true, beq_iff_eq, Option.isNone_iff_eq_none] at hc
              obtain ⟨rfl, rfl⟩ := hc
              exact pss_one (ps_ret (pe_and (pe_callB (call_isE eC hz hf) (by rfl) m.isi b_isi (pa_cons (pv 11) (pa_cons (pe_glob (by rfl) gHF rfl) pa_nil))) (pe_one (pe_cmpR (op_neD hr.units) (pe_callB cr_sorted (by rfl) m.srt b_sorted (pa_cons (pv 1) pa_nil)) (pe_op op_rep (pe_lst (pa_cons pe_int pa_nil)) (pv 3)) (nomark _)))))
            · exact pss_false))
      (pss_one (ps_ret (pe_and (pe_cmpR (op_eqD hr.units) (pe_callB cr_sorted (by rfl) m.srt b_sorted (pa_cons (pv 1) pa_nil)) (pe_op op_rep (pe_lst (pa_cons pe_int pa_nil)) (pv 3)) (nomark _))
        (pe_and (pe_cmpR (op_eqD hr.units) (pv 10) (by exact (pe_call GF hr1 rfl gF kF bF .nil pass0 (pa_cons (pv 5) pa_nil))) (nomark _)) (pe_one (by exact (pe_call GU hr4 rfl gU kU bU .nil pass0 (pa_cons (pv 10) pa_nil))))))))))))))))))))), ?_⟩
    have hD0 : Dp K H (.ref a) (.list (ns.map PyData.int)) := .lst hS (ints_dpa ns)
    have scr : ∀ {σ' : L2.St} {H1 : Hp}, σ'[0]? = some (some (.ref a)) → Same H H1 → EvP (tVar 0) σ' H1 fun u H' => u = .ref a ∧ Dp K H' u (.list (ns.map PyData.int)) := fun h0 e => evp_var h0 fun H' e' => ⟨rfl, dp_same (e.trans e') hD0⟩
    -- fields, edges
    refine (evp_call (sp := spLS K) (dvs := []) (E := E0) (σ := start nLaw [.ref a]) (H := H) (P := fun u H' => ∃ (h : List Int) (es : List SF.Edge), Dp K H' u (.tuple [.list (h.map PyData.int), .list (es.map edgeD)]) ∧ lsOK h es) (PA := fun us H' => ∃ kd : Int, us = [.ref a, .int 0, .int 6, .int kd] ∧ (kd = 0 ∨ kd = 2) ∧ Same H H')
      (eap_cons (evv_var rfl) fun u1 H1 e1 p1 => eap_cons (evv_c (v := .int 0)) fun u2 H2 e2 p2 => eap_cons (evv_c (v := .int 6)) fun u3 H3 e3 p3 => eap_cons (P1 := fun v _ => ∃ kd : Int, v = .int kd ∧ (kd = 0 ∨ kd = 2))
        (evp_op (P1 := fun v _ => v = .int 2) evv_c (fun _ _ _ _ z => z) (evp_modI (j := 2) (evp_cell (k := 3) (scr rfl (e1.trans (e2.trans e3))) (evv_c (v := .int ((3 : Nat) : Int)))) evv_c (by decide)) fun x y H4 e4 q1 q2 Q4 q4 => by
          obtain ⟨n, rfl, hn⟩ := q2
          subst q1
          exact ⟨2, n, rfl, rfl, .inl ⟨by decide, by decide⟩, q4 _ _ (Same.refl _) ⟨2 * n, rfl, by omega⟩⟩)
        fun u4 H4 e4 p4 => eap_nil fun H5 e5 => by
          obtain ⟨kd, rfl, hk⟩ := p4
          exact ⟨kd, by rw [p1, p2, p3], hk, ((e1.trans e2).trans (e3.trans e4)).trans e5⟩)
      fun us H1 e1 p1 Q1 q1 => by
        obtain ⟨kd, rfl, hk, e⟩ := p1
        exact ⟨.ref a, ns, kd, rfl, dp_same e hD0, hk, fun u H' h es e' hd ok => q1 u H' e' ⟨h, es, hd, ok⟩⟩).go fun u H1 e1 p1 => ?_
    obtain ⟨h, es, hd, ok⟩ := p1
    obtain ⟨pa, fv, ev, rfl, hpa, hfv, hev⟩ := dp_pair hd
    refine ⟨pa, _, rfl, hpa, rfl, _, _, rfl, _, _, rfl, rfl, ?_⟩
    dsimp only
    have wf : SF.Wf h (es.take 10) := ⟨ok.lo, ok.hi, by rw [List.length_take]; omega, fun e he => ok.lt e (List.mem_of_mem_take he), ok.asc.sublist (List.take_sublist _ _), fun e he => ok.cj e (List.mem_of_mem_take he), ok.fj⟩
    -- edges[:10]
    refine q_set ((evd_slice (K := K) (evd_var rfl hev) 10).imp fun v H' _ p => show Dp K H' v (.list ((es.take 10).map edgeD)) by rw [List.map_take]; exact p) fun ev2 H2 e2 hev2 => ?_
    generalize es.take 10 = es' at wf hev2
    have hlt := wf.lt
    have hf2 := dp_same e2 hfv
    refine q_set ((evv_lenL (evd_var rfl hf2)).vis (w := .int (h.length : Int)) (by rw [List.length_map])) fun u H3 e3 p3 => ?_
    subst p3
    -- Spins
    refine q_set (P := fun u H' => SpinsAt K C H' u h es') (evp_make (E := E0) (ead_cons (K := K) (evd_var rfl (dp_same e3 hf2)) (ead_cons (evd_var rfl (dp_same e3 hev2)) ead_nil)) fun vs' H4 e4 p4 Q4 q4 x dx nx ndx hne => ?_) fun sv H4 e4 S => ?_
    · obtain ⟨f', e', rfl, d1, d2⟩ := dpa_two p4
      have s1 := same_made (C := C) nx ndx hne
      refine ⟨x, dx, f', e', h, es', rfl, upd_same, dp_same s1 d1, dp_same s1 d2, wf, fun H' fv' ev' hk hx df de => ⟨rfl, ?_⟩⟩
      have s2 : Same H4 H' := fun b o hb => hk b o (s1 _ _ hb) (ne_of_none hb nx)
      exact q4 (.ref x) H' s2 ⟨x, dx, fv', ev', rfl, hx, df, de⟩
    have e24 := e3.trans e4
    have hf4 := dp_same e24 hf2
    -- whole
    refine q_set (P := fun u H' => Dp K H' u (polyD (SF.Z h es'))) (evp_callV (eav_cons (evv_var rfl) eav_nil) fun H5 e5 Q5 q5 => ⟨sv, h, es', rfl, S.same e5, wf, fun u H' e hd => q5 u H' e hd⟩) fun wv H5 e5 hw => ?_
    have zl : (SF.Z h es').length ≤ 64 := by
      have h1 := (SF.Z_canon h es').len
      have h2 := SF.Z_nrm h es'
      have h3 : 2 ^ h.length ≤ 64 := Nat.le_trans (Nat.pow_le_pow_right (by omega) wf.hi) (by decide)
      omega
    have zs : (SF.Z h es').length < sizeLine := by rw [sizeLine_eq]; omega
    have tuplesT : ∀ {te : TE} {σ' : L2.St} {H' : Hp} {p : Poly}, EvD K te σ' H' (polyD p) → p.length < sizeLine → EvV (tCall (spTuples K 4) [] E0 (tCons te tNil)) σ' H' (.bl true) := fun hte hp =>
      evp_call (PA := fun us H' => DpAll K H' us [polyD _]) (ead_cons hte ead_nil) fun us H6 e6 p6 Q6 q6 => by
        obtain ⟨x, rfl, hx⟩ := dpa_one p6
        exact ⟨x, _, rfl, hx, good_poly hp, fun H7 e7 => q6 _ _ e7 rfl⟩
    refine q_when (b := false) ((evb_or (a := false) (b := false) (evb_not (a := true) (evb_B (evv_isi (t := "tuple") (evd_var rfl hw) (fun _ _ => tyx_tup) (by decide +kernel)))) fun _ => evb_not (a := true) (evb_B (tuplesT (evd_var rfl hw) zs)))) (fun z => nomatch z) fun _ H6 e6 => ?_
    have hw6 := dp_same e6 hw
    have S6 := S.same (e5.trans e6)
    have e06 : Same H H6 := e1.trans (e2.trans (e24.trans (e5.trans e6)))
    -- the order
    refine q_set (P := fun u H' => ∃ order : List Nat, Dp K H' u (.list (order.map natD)) ∧ order.Perm (List.range h.length)) (evp_call (PA := fun us _ => ∃ z : Int, us = [.int z, .int (h.length : Int)]) (eap_cons (evp_cell (k := 4) (scr rfl e06) (evv_c (v := .int ((4 : Nat) : Int)))) fun u1 H7 e7 p7 => eap_cons (evv_var (v := .int (h.length : Int)) rfl) fun u2 H8 e8 p8 => eap_nil fun H9 e9 => by
        obtain ⟨z, rfl⟩ := p7
        exact ⟨z, by rw [p8]⟩) fun us H7 e7 p7 Q7 q7 => by
      obtain ⟨z, rfl⟩ := p7
      exact ⟨z, h.length, rfl, wf.hi, fun u H' order e hd pm => q7 u H' e ⟨order, hd, pm⟩⟩) fun ov H7 e7 p7 => ?_
    obtain ⟨order, hov, perm⟩ := p7
    have hw7 := dp_same e7 hw6
    have S7 := S6.same e7
    refine q_when (b := false) ((evb_or (a := false) (b := false) ((evb_test (evv_neD (d := polyD (SF.Z h es')) (e := polyD (SF.Z h es')) (evp_callV (vs := [sv, ov]) (eav_cons (evv_var rfl) (eav_cons (evv_var rfl) eav_nil)) fun H8 e8 Q8 q8 => ⟨sv, ov, h, es', order, rfl, S7.same e8, wf, dp_same e8 hov, perm, fun u H' e hd => q8 u H' e hd⟩) (evd_var rfl hw7) (shaped_poly _) (shaped_poly _))).is (by rw [eqv_poly]; rfl))
      fun _ => (evb_test (evv_neD (d := polyD (SF.Z h es')) (e := polyD (SF.Z h es')) (evp_callV (vs := [sv]) (eav_cons (evv_var rfl) eav_nil) fun H8 e8 Q8 q8 => ⟨sv, h, es', rfl, S7.same e8, wf, fun u H' e hd => q8 u H' e hd⟩) (evd_var rfl hw7) (shaped_poly _) (shaped_poly _))).is (by rw [eqv_poly]; rfl))) (fun z => nomatch z) fun _ H8 e8 => ?_
    have hw8 := dp_same e8 hw7
    have S8 := S7.same e8
    have hf8 := dp_same (e5.trans (e6.trans (e7.trans e8))) hf4
    -- numbers
    refine q_set (evd_lcA (K := K) (l := SF.Z h es') (src_tup (evd_var (i := 5) rfl hw8)).map zs (fun t => PyData.int t.2) (fun _ => rfl) fun t x H' ht e yd R kk => ?_) fun nv H9 e9 hnv => ?_
    · obtain ⟨ra, xe, xc, rfl, g1, g2, g3⟩ := dp_pair yd
      cases dp_int g3
      refine ⟨ra, _, rfl, g1, rfl, _, _, rfl, _, _, rfl, rfl, ?_⟩
      exact kk _ rfl (evv_d (evv_var rfl))
    have hnv : Dp K H9 nv (.list (((SF.Z h es').map (·.2)).map PyData.int)) := by rw [List.map_map]; exact hnv
    have zne := SF.Z_ne h es'
    have npos : 0 < ((SF.Z h es').map (·.2)).length := by
      rw [List.length_map]
      exact List.length_pos_iff.mpr zne
    have nsum : ((SF.Z h es').map (·.2)).sum = 2 ^ h.length := by rw [← SF.ev_one_sum, SF.Z_sum]
    have hi6 := wf.hi
    refine q_when (b := false) ((evb_or (a := false) (b := false) (evb_test (evp_op (P1 := fun v _ => ∃ m : Int, v = .int m ∧ 1 ≤ m) (P2 := fun v _ => v = .int 1) ((evp_min (K := K) (evd_var rfl hnv) npos).imp fun v H' _ ⟨mm, em, hm⟩ => ⟨mm, em, by
          obtain ⟨t, ht, rfl⟩ := List.mem_map.mp hm
          exact SF.Z_mem_pos ht⟩) (fun _ _ _ _ z => z) evv_c fun x y H10 e10 p1 p2 Q10 q10 => by
        obtain ⟨mm, rfl, hm⟩ := p1
        subst p2
        refine ⟨mm, 1, rfl, rfl, q10 _ _ (Same.refl _) ?_⟩
        show V.bl (decide (mm < 1)) = V.bl false
        rw [decide_eq_false (by omega)]))
      fun _ => (evb_test (evv_ne (evv_sum (evd_var rfl hnv)) (evv_shl evv_c (evv_var rfl) ⟨by omega, by omega, by decide⟩))).is (by rw [nsum]; simp))) (fun z => nomatch z) fun _ H10 e10 => ?_
    have hw10 := dp_same (e9.trans e10) hw8
    have hf10 := dp_same (e9.trans e10) hf8
    have S10 := S8.same (e9.trans e10)
    have acs : ∀ {f : (Int × Int) × Int → Bool} {l : List (Int × Int)}, ((SF.Z h es').filter f).map (fun t => (t.1.1, t.2)) = l → ((SF.Z h es').filter f).map (fun t => acD (t.1.1, t.2)) = l.map acD := fun hh => by rw [← hh, List.map_map]; rfl
    -- downs
    show tSeq _ _ _ [some (.ref a), some fv, some ev2, some (.int (h.length : Int)), some sv, some wv, some ov, some nv, none, none, none, none, none, none, none, none] _
    refine q_set (evd_lc (K := K) (l := SF.Z h es') (src_tup (evd_var (i := 5) rfl hw10)).map zs (fun t => decide (t.1.2 = 0)) (fun t => acD (t.1.1, t.2)) (fun _ => rfl) fun t x H' ht e yd R kk => ?_) fun dv H11 e11 hdv => ?_
    · obtain ⟨ra, xe, xc, rfl, g1, g2, g3⟩ := dp_pair yd
      obtain ⟨ea, rfl, g4⟩ := dp_ex (a := t.1.1) (b := t.1.2) g2
      cases dp_int g3
      refine ⟨ra, _, rfl, g1, rfl, _, _, rfl, ⟨ea, _, rfl, g4, rfl, _, _, rfl, _, _, rfl, rfl, _, _, rfl, rfl, ?_⟩⟩
      exact kk _ rfl ((evb_test (evv_eq (evv_var rfl) evv_c)).is (by simp)) fun _ => evd_tup (K := K) (ead_cons (evv_d (evv_var rfl)) (ead_cons (evv_d (evv_var rfl)) ead_nil)) (by show 2 ≤ sizeLine; decide)
    rw [acs (SF.Z_low hlt)] at hdv
    have hw11 := dp_same e11 hw10
    -- alls
    show tSeq _ _ _ [some (.ref a), some fv, some ev2, some (.int (h.length : Int)), some sv, some wv, some ov, some nv, some dv, none, none, none, none, none, none, none] _
    refine q_set (evd_lc (K := K) (l := SF.Z h es') (src_tup (evd_var (i := 5) rfl hw11)).map zs (fun t => decide (t.1.2 = (h.length : Int))) (fun t => acD (t.1.1, t.2)) (fun _ => rfl) fun t x H' ht e yd R kk => ?_) fun av H12 e12 hav => ?_
    · obtain ⟨ra, xe, xc, rfl, g1, g2, g3⟩ := dp_pair yd
      obtain ⟨ea, rfl, g4⟩ := dp_ex (a := t.1.1) (b := t.1.2) g2
      cases dp_int g3
      refine ⟨ra, _, rfl, g1, rfl, _, _, rfl, ⟨ea, _, rfl, g4, rfl, _, _, rfl, _, _, rfl, rfl, _, _, rfl, rfl, ?_⟩⟩
      exact kk _ rfl ((evb_test (evv_eq (evv_var rfl) (evv_var (v := .int (h.length : Int)) rfl))).is (by simp)) fun _ => evd_tup (K := K) (ead_cons (evv_d (evv_var rfl)) (ead_cons (evv_d (evv_var rfl)) ead_nil)) (by show 2 ≤ sizeLine; decide)
    rw [acs (SF.Z_high hlt)] at hav
    show tSeq _ _ _ [some (.ref a), some fv, some ev2, some (.int (h.length : Int)), some sv, some wv, some ov, some nv, some dv, some av, none, none, none, none, none, none] _
    have hdv12 := dp_same e12 hdv
    have hf12 := dp_same (e11.trans e12) hf10
    refine q_when (b := false) ((evb_or (a := false) (b := false) ((evb_test (evv_neD (K := K) (d := .list ([((0 : Int), (1 : Int))].map acD)) (e := .list ([((0 : Int), (1 : Int))].map acD)) (evd_var rfl hdv12) (evd_lst (ead_cons (evd_tup (ead_cons evd_int (ead_cons evd_int ead_nil)) (by show 2 ≤ sizeLine; decide)) ead_nil) (by show 1 ≤ sizeLine; decide)) (shaped_acs _) (shaped_acs _))).is (by rw [eqv_acs]; rfl))
      fun _ => (evb_test (evv_neD (K := K) (d := .list ([(h.sum, (1 : Int))].map acD)) (e := .list ([(h.sum, (1 : Int))].map acD)) (evd_var rfl hav) (evd_lst (ead_cons (evd_tup (ead_cons (evv_d (evv_sum (evd_var rfl hf12))) (ead_cons evd_int ead_nil)) (by show 2 ≤ sizeLine; decide)) ead_nil) (by show 1 ≤ sizeLine; decide)) (shaped_acs _) (shaped_acs _))).is (by rw [eqv_acs]; rfl))) (fun z => nomatch z) fun _ H13 e13 => ?_
    have S13 := S10.same (e11.trans (e12.trans e13))
    have hf13 := dp_same e13 hf12
    have hw13 := dp_same (e12.trans e13) hw11
    obtain ⟨ys, pys, ays⟩ := sorted_ex h
    have hl64 : h.length < 64 := by omega
    have eqz : (∀ x ∈ h, x = 0) → ys = List.replicate h.length 0 := fun hz => List.eq_replicate_iff.mpr ⟨pys.length_eq, fun y hy => hz y (pys.mem_iff.mp hy)⟩
    have nez : ¬ (∀ x ∈ h, x = 0) → ys ≠ List.replicate h.length 0 := fun hz e => hz fun x hx => List.eq_of_mem_replicate (e ▸ pys.mem_iff.mpr hx)
    by_cases hz : ∀ x ∈ h, x = 0
    · refine ⟨_, rfl, ⟨sv, h, es', rfl, S13, wf, fun _ u H14 e14 hu => ?_, fun n => absurd hz n⟩⟩
      have hf14 := dp_same e14 hf13
      have hw14 := dp_same e14 hw13
      have fl := SF.flat_Z hz es'
      have f0l : (SF.F0 h.length es').length < sizeLine := by
        have h1 := (SF.F0_canon h.length es').len
        have h2 : SF.nrm (SF.F0 h.length es') ≤ SF.nrm ((SF.states h.length).map fun s => ((SF.cst0 es' s, (0 : Int)), (1 : Int))) := SF.nrm_cf _
        rw [nrm_ones (SF.states h.length) (fun s => (SF.cst0 es' s, (0 : Int))), SF.states_len] at h2
        have h3 : 2 ^ h.length ≤ 64 := Nat.le_trans (Nat.pow_le_pow_right (by omega) hi6) (by decide)
        rw [sizeLine_eq]; omega
      unfold gName
      dsimp only
      show tRet _ (DQ Q) [some (.ref a), some fv, some ev2, some (.int (h.length : Int)), some sv, some wv, some ov, some nv, some dv, some av, some u, none, none, none, none, none] H14
      refine s_end (Q := Q) (P := fun v _ => v = .bl true) (evv_andV (a := true) (b := true) ((evv_eqD (K := K) (evd_sorted (evd_var (i := 1) rfl hf14) hl64 pys ays) (evd_rep (n := h.length) (evv_var (i := 3) rfl) (by omega)) (shaped_ints _) (shaped_ints _)).vis (by rw [eqv_ints, eqz hz]; simp))
        fun _ => evv_andV (a := true) (b := true) ((evv_eqD (K := K) (d := polyD (SF.F0 h.length es')) (e := polyD (SF.F0 h.length es')) (evd_var (i := 10) rfl hu) (evp_callV (vs := [wv]) (eav_cons (evv_var (i := 5) rfl) eav_nil) fun H15 e15 Q15 q15 => ⟨wv, SF.Z h es', rfl, dp_same e15 hw14, fun t ht => SF.Z_exp wf hz ht, fun u2 H' e hd => q15 u2 H' e (by rw [← fl]; exact hd)⟩) (shaped_poly _) (shaped_poly _)).vis (by rw [eqv_poly]))
          fun _ => tuplesT (evd_var (i := 10) rfl hu) f0l) fun v H' _ ev => by subst ev; exact q H'
    · refine ⟨_, rfl, ⟨sv, h, es', rfl, S13, wf, fun z => absurd z hz, fun _ H14 e14 => ?_⟩⟩
      refine ⟨true, hex, fun _ b nb => ?_, fun z => nomatch z⟩
      have hf14 := dp_same e14 hf13
      unfold tsX
      rw [if_pos (by simp)]
      show tRet _ _ [some (.ref a), some fv, some ev2, some (.int (h.length : Int)), some sv, some wv, some ov, some nv, some dv, some av, none, some (.ref b), none, none, none, none] H14
      refine s_ret (P := fun v _ => v = .bl true) (evv_andV (a := true) (b := true) (evp_cb (PA := fun us _ => us = [.ref b, .ref CH]) (eap_cons (evv_var (v := .ref b) (i := 11) rfl) fun u1 H15 e15 p1 => eap_cons (evv_c (v := .ref CH)) fun u2 H16 e16 p2 => eap_nil fun H17 e17 => by rw [p1, p2]) fun us H15 e15 p15 Q15 q15 => ⟨.ref CH, .ref CH, true, p15, fun u hu => hu, hkit, q15 _ _ (Same.refl _) rfl⟩)
        fun _ => (evv_neD (K := K) (evd_sorted (evd_var (i := 1) rfl hf14) hl64 pys ays) (evd_rep (n := h.length) (evv_var (i := 3) rfl) (by omega)) (shaped_ints _) (shaped_ints _)).vis (by rw [eqv_ints]; simp [nez hz])) fun v H' _ ev => by subst ev; exact q H'
end
end SFW

set_option maxRecDepth 100000
set_option maxHeartbeats 4000000
/-! # What the top has written; the law's own def -/
namespace SFW
open PySem PySem.Spec PyProof.Rows L2
theorem one_dp {K : PySem.W.Frag} {o1 o2 o3 : Addr} {dd1 dd2 dd3 : Option Addr} {n1 n2 n3 : Nat} {sl1 sl2 sl3 : Array (Option Value)} {tk1 tk2 tk3 : Tok}
    (l1 : K.lookup o1 = some ⟨.type "tuple", dd1, .seq #[.ref o2] n1, sl1⟩) (l2 : K.lookup o2 = some ⟨.type "tuple", dd2, .seq #[.ref o3, .int 1 tk1] n2, sl2⟩) (l3 : K.lookup o3 = some ⟨.type "tuple", dd3, .seq #[.int 0 tk2, .int 0 tk3] n3, sl3⟩) (H : Hp) :
    Dp K H (.ref o1) (polyD [((0, 0), 1)]) := by
  have h3 : SqT K H o3 [.int 0, .int 0] := .inr ⟨_, _, n3, l3, rfl, rfl, by show 2 ≤ sizeLine; decide, .cons ⟨_, rfl⟩ (.cons ⟨_, rfl⟩ .nil)⟩
  have h2 : SqT K H o2 [.ref o3, .int 1] := .inr ⟨_, _, n2, l2, rfl, rfl, by show 2 ≤ sizeLine; decide, .cons rfl (.cons ⟨_, rfl⟩ .nil)⟩
  have h1 : SqT K H o1 [.ref o2] := .inr ⟨_, _, n1, l1, rfl, rfl, by show 1 ≤ sizeLine; decide, .cons rfl .nil⟩
  exact .tup h1 (.cons (.tup h2 (.cons (ex_dp h3) (.cons (.int 1) .nil))) .nil)
theorem all_mk {l : PySem.W.OpenLaw} {w : World} {K : PySem.W.Frag} {h : Heap} {mg : Str → Option Value} {fa C CG CF CH CE o1 o2 o3 : Addr} {f_gath f_poly f_plus f_times f_shared f_joined f_gat f_ef f_clus f_check f_ends f_even f_loops f_states f_all f_cost f_ups f_sum f_order f_near f_front f_paid f_trans f_cell f_mix f_row f_tuples f_ls f_lo f_lf f_law f_gatI f_total f_put f_facI f_of f_spinI : Addr} (X : K.In h) (G : h.Ns mainGlobals mg) (hfa : mg "law" = some (.ref fa))
    {dd1 dd2 dd3 : Option Addr} {n1 n2 n3 : Nat} {sl1 sl2 sl3 : Array (Option Value)} {tk1 tk2 tk3 t_MV t_ME t_GR : Tok}
    {od_gath od_poly od_plus od_times od_shared od_joined od_gat od_ef od_clus od_check od_ends od_even od_loops od_states od_all od_cost od_ups od_sum od_order od_near od_front od_paid od_trans od_cell od_mix od_row od_tuples od_ls od_lo od_lf od_law od_gatI od_total od_put od_facI od_of od_spinI an_gath an_poly an_plus an_times an_shared an_joined an_gat an_ef an_clus an_check an_ends an_even an_loops an_states an_all an_cost an_ups an_sum an_order an_near an_front an_paid an_trans an_cell an_mix an_row an_tuples an_ls an_lo an_lf an_law an_gatI an_total an_put an_facI an_of an_spinI : Option Addr} {sl_gath sl_poly sl_plus sl_times sl_shared sl_joined sl_gat sl_ef sl_clus sl_check sl_ends sl_even sl_loops sl_states sl_all sl_cost sl_ups sl_sum sl_order sl_near sl_front sl_paid sl_trans sl_cell sl_mix sl_row sl_tuples sl_ls sl_lo sl_lf sl_law sl_gatI sl_total sl_put sl_facI sl_of sl_spinI : Array (Option Value)}
    {oc_gath oc_poly oc_plus oc_times oc_shared oc_joined oc_gat oc_ef oc_clus oc_check oc_ends oc_even oc_loops oc_states oc_all oc_cost oc_ups oc_sum oc_order oc_near oc_front oc_paid oc_trans oc_cell oc_mix oc_row oc_tuples oc_ls oc_lo oc_lf oc_law oc_gatI oc_total oc_put oc_facI oc_of oc_spinI kV_gath kV_poly kV_plus kV_times kV_shared kV_joined kV_gat kV_ef kV_clus kV_check kV_ends kV_even kV_loops kV_states kV_all kV_cost kV_ups kV_sum kV_order kV_near kV_front kV_paid kV_trans kV_cell kV_mix kV_row kV_tuples kV_ls kV_lo kV_lf kV_law kV_gatI kV_total kV_put kV_facI kV_of kV_spinI dc_gath dc_poly dc_plus dc_times dc_shared dc_joined dc_gat dc_ef dc_clus dc_check dc_ends dc_even dc_loops dc_states dc_all dc_cost dc_ups dc_sum dc_order dc_near dc_front dc_paid dc_trans dc_cell dc_mix dc_row dc_tuples dc_ls dc_lo dc_lf dc_law dc_gatI dc_total dc_put dc_facI dc_of dc_spinI pm_gath pm_poly pm_plus pm_times pm_shared pm_joined pm_gat pm_ef pm_clus pm_check pm_ends pm_even pm_loops pm_states pm_all pm_cost pm_ups pm_sum pm_order pm_near pm_front pm_paid pm_trans pm_cell pm_mix pm_row pm_tuples pm_ls pm_lo pm_lf pm_law pm_gatI pm_total pm_put pm_facI pm_of pm_spinI cd_gath cd_poly cd_plus cd_times cd_shared cd_joined cd_gat cd_ef cd_clus cd_check cd_ends cd_even cd_loops cd_states cd_all cd_cost cd_ups cd_sum cd_order cd_near cd_front cd_paid cd_trans cd_cell cd_mix cd_row cd_tuples cd_ls cd_lo cd_lf cd_law cd_gatI cd_total cd_put cd_facI cd_of cd_spinI ct_gath ct_poly ct_plus ct_times ct_shared ct_joined ct_gat ct_ef ct_clus ct_check ct_ends ct_even ct_loops ct_states ct_all ct_cost ct_ups ct_sum ct_order ct_near ct_front ct_paid ct_trans ct_cell ct_mix ct_row ct_tuples ct_ls ct_lo ct_lf ct_law ct_gatI ct_total ct_put ct_facI ct_of ct_spinI : Value}
    (a_C : PySem.W.nsIn K mainGlobals "Spins" = some (some (.ref C)))
    (pg_C : PySem.W.plainGet K C Str.empty = true)
    (hd_C : PySem.W.hasDictIn K C = true)
    (po_C : PySem.W.plainOver K C = true)
    (sa_C : PySem.W.findIn K (.ref C) "__setattr__" = some (some (.builtin "object.__setattr__")))
    (mk_C : PySem.W.makesIn K C = true)
    (kc_C : PySem.W.keepIn K (.ref C) = true)
    (n0_C : PySem.W.findIn K (.ref C) "fields" = some none)
    (n1_C : PySem.W.findIn K (.ref C) "edges" = some none)
    (a_CG : PySem.W.nsIn K mainGlobals "Gatherer" = some (some (.ref CG)))
    (pg_CG : PySem.W.plainGet K CG Str.empty = true)
    (hd_CG : PySem.W.hasDictIn K CG = true)
    (po_CG : PySem.W.plainOver K CG = true)
    (sa_CG : PySem.W.findIn K (.ref CG) "__setattr__" = some (some (.builtin "object.__setattr__")))
    (mk_CG : PySem.W.makesIn K CG = true)
    (kc_CG : PySem.W.keepIn K (.ref CG) = true)
    (n0_CG : PySem.W.findIn K (.ref CG) "_count" = some none)
    (n1_CG : PySem.W.findIn K (.ref CG) "_edges" = some none)
    (n2_CG : PySem.W.findIn K (.ref CG) "_last" = some none)
    (a_CF : PySem.W.nsIn K mainGlobals "SpinFactors" = some (some (.ref CF)))
    (pg_CF : PySem.W.plainGet K CF Str.empty = true)
    (hd_CF : PySem.W.hasDictIn K CF = true)
    (po_CF : PySem.W.plainOver K CF = true)
    (sa_CF : PySem.W.findIn K (.ref CF) "__setattr__" = some (some (.builtin "object.__setattr__")))
    (mk_CF : PySem.W.makesIn K CF = true)
    (kc_CF : PySem.W.keepIn K (.ref CF) = true)
    (n0_CF : PySem.W.findIn K (.ref CF) "_fields" = some none)
    (a_gath : PySem.W.nsIn K mainGlobals "_gathered" = some (some (.ref f_gath)))
    (l_gath : K.lookup f_gath = some ⟨oc_gath, od_gath, .func (PySem.W.fnOf "_gathered" "_gathered" (defArgs sGath) (defBody sGath) (defScope sGath) .none kV_gath dc_gath pm_gath an_gath cd_gath ct_gath), sl_gath⟩)
    (c_gath : PySem.W.codeIn K cd_gath "_gathered" = true)
    (k_gath : PySem.W.keepIn K (.ref f_gath) = true)
    (a_poly : PySem.W.nsIn K mainGlobals "polynomial" = some (some (.ref f_poly)))
    (l_poly : K.lookup f_poly = some ⟨oc_poly, od_poly, .func (PySem.W.fnOf "polynomial" "polynomial" (defArgs sPoly) (defBody sPoly) (defScope sPoly) .none kV_poly dc_poly pm_poly an_poly cd_poly ct_poly), sl_poly⟩)
    (c_poly : PySem.W.codeIn K cd_poly "polynomial" = true)
    (k_poly : PySem.W.keepIn K (.ref f_poly) = true)
    (a_plus : PySem.W.nsIn K mainGlobals "plus" = some (some (.ref f_plus)))
    (l_plus : K.lookup f_plus = some ⟨oc_plus, od_plus, .func (PySem.W.fnOf "plus" "plus" (defArgs sPlus) (defBody sPlus) (defScope sPlus) .none kV_plus dc_plus pm_plus an_plus cd_plus ct_plus), sl_plus⟩)
    (c_plus : PySem.W.codeIn K cd_plus "plus" = true)
    (k_plus : PySem.W.keepIn K (.ref f_plus) = true)
    (a_times : PySem.W.nsIn K mainGlobals "times" = some (some (.ref f_times)))
    (l_times : K.lookup f_times = some ⟨oc_times, od_times, .func (PySem.W.fnOf "times" "times" (defArgs sTimes) (defBody sTimes) (defScope sTimes) .none kV_times dc_times pm_times an_times cd_times ct_times), sl_times⟩)
    (c_times : PySem.W.codeIn K cd_times "times" = true)
    (k_times : PySem.W.keepIn K (.ref f_times) = true)
    (a_shared : PySem.W.nsIn K mainGlobals "shared" = some (some (.ref f_shared)))
    (l_shared : K.lookup f_shared = some ⟨oc_shared, od_shared, .func (PySem.W.fnOf "shared" "shared" (defArgs sShared) (defBody sShared) (defScope sShared) .none kV_shared dc_shared pm_shared an_shared cd_shared ct_shared), sl_shared⟩)
    (c_shared : PySem.W.codeIn K cd_shared "shared" = true)
    (k_shared : PySem.W.keepIn K (.ref f_shared) = true)
    (a_joined : PySem.W.nsIn K mainGlobals "_joined" = some (some (.ref f_joined)))
    (l_joined : K.lookup f_joined = some ⟨oc_joined, od_joined, .func (PySem.W.fnOf "_joined" "_joined" (defArgs sJoined) (defBody sJoined) (defScope sJoined) .none kV_joined dc_joined pm_joined an_joined cd_joined ct_joined), sl_joined⟩)
    (c_joined : PySem.W.codeIn K cd_joined "_joined" = true)
    (k_joined : PySem.W.keepIn K (.ref f_joined) = true)
    (a_gat : PySem.W.nsIn K mainGlobals "_gatherer" = some (some (.ref f_gat)))
    (l_gat : K.lookup f_gat = some ⟨oc_gat, od_gat, .func (PySem.W.fnOf "_gatherer" "_gatherer" (defArgs sGat) (defBody sGat) (defScope sGat) .none kV_gat dc_gat pm_gat an_gat cd_gat ct_gat), sl_gat⟩)
    (c_gat : PySem.W.codeIn K cd_gat "_gatherer" = true)
    (k_gat : PySem.W.keepIn K (.ref f_gat) = true)
    (a_ef : PySem.W.nsIn K mainGlobals "_edge_factors" = some (some (.ref f_ef)))
    (l_ef : K.lookup f_ef = some ⟨oc_ef, od_ef, .func (PySem.W.fnOf "_edge_factors" "_edge_factors" (defArgs sEF) (defBody sEF) (defScope sEF) .none kV_ef dc_ef pm_ef an_ef cd_ef ct_ef), sl_ef⟩)
    (c_ef : PySem.W.codeIn K cd_ef "_edge_factors" = true)
    (k_ef : PySem.W.keepIn K (.ref f_ef) = true)
    (a_clus : PySem.W.nsIn K mainGlobals "sum_by_clusters" = some (some (.ref f_clus)))
    (l_clus : K.lookup f_clus = some ⟨oc_clus, od_clus, .func (PySem.W.fnOf "sum_by_clusters" "sum_by_clusters" (defArgs sClus) (defBody sClus) (defScope sClus) .none kV_clus dc_clus pm_clus an_clus cd_clus ct_clus), sl_clus⟩)
    (c_clus : PySem.W.codeIn K cd_clus "sum_by_clusters" = true)
    (k_clus : PySem.W.keepIn K (.ref f_clus) = true)
    (a_check : PySem.W.nsIn K mainGlobals "check_no_field" = some (some (.ref f_check)))
    (l_check : K.lookup f_check = some ⟨oc_check, od_check, .func (PySem.W.fnOf "check_no_field" "check_no_field" (defArgs sCheck) (defBody sCheck) (defScope sCheck) .none kV_check dc_check pm_check an_check cd_check ct_check), sl_check⟩)
    (c_check : PySem.W.codeIn K cd_check "check_no_field" = true)
    (k_check : PySem.W.keepIn K (.ref f_check) = true)
    (a_ends : PySem.W.nsIn K mainGlobals "ends_mask" = some (some (.ref f_ends)))
    (l_ends : K.lookup f_ends = some ⟨oc_ends, od_ends, .func (PySem.W.fnOf "ends_mask" "ends_mask" (defArgs sEnds) (defBody sEnds) (defScope sEnds) .none kV_ends dc_ends pm_ends an_ends cd_ends ct_ends), sl_ends⟩)
    (c_ends : PySem.W.codeIn K cd_ends "ends_mask" = true)
    (k_ends : PySem.W.keepIn K (.ref f_ends) = true)
    (a_even : PySem.W.nsIn K mainGlobals "even_weights" = some (some (.ref f_even)))
    (l_even : K.lookup f_even = some ⟨oc_even, od_even, .func (PySem.W.fnOf "even_weights" "even_weights" (defArgs sEven) (defBody sEven) (defScope sEven) .none kV_even dc_even pm_even an_even cd_even ct_even), sl_even⟩)
    (c_even : PySem.W.codeIn K cd_even "even_weights" = true)
    (k_even : PySem.W.keepIn K (.ref f_even) = true)
    (a_loops : PySem.W.nsIn K mainGlobals "sum_by_loops" = some (some (.ref f_loops)))
    (l_loops : K.lookup f_loops = some ⟨oc_loops, od_loops, .func (PySem.W.fnOf "sum_by_loops" "sum_by_loops" (defArgs sLoops) (defBody sLoops) (defScope sLoops) .none kV_loops dc_loops pm_loops an_loops cd_loops ct_loops), sl_loops⟩)
    (c_loops : PySem.W.codeIn K cd_loops "sum_by_loops" = true)
    (k_loops : PySem.W.keepIn K (.ref f_loops) = true)
    (a_states : PySem.W.nsIn K mainGlobals "states_of" = some (some (.ref f_states)))
    (l_states : K.lookup f_states = some ⟨oc_states, od_states, .func (PySem.W.fnOf "states_of" "states_of" (defArgs sStates) (defBody sStates) (defScope sStates) .none kV_states dc_states pm_states an_states cd_states ct_states), sl_states⟩)
    (c_states : PySem.W.codeIn K cd_states "states_of" = true)
    (k_states : PySem.W.keepIn K (.ref f_states) = true)
    (a_all : PySem.W.nsIn K mainGlobals "all_states" = some (some (.ref f_all)))
    (l_all : K.lookup f_all = some ⟨oc_all, od_all, .func (PySem.W.fnOf "all_states" "all_states" (defArgs sAll) (defBody sAll) (defScope sAll) .none kV_all dc_all pm_all an_all cd_all ct_all), sl_all⟩)
    (c_all : PySem.W.codeIn K cd_all "all_states" = true)
    (k_all : PySem.W.keepIn K (.ref f_all) = true)
    (a_cost : PySem.W.nsIn K mainGlobals "cost" = some (some (.ref f_cost)))
    (l_cost : K.lookup f_cost = some ⟨oc_cost, od_cost, .func (PySem.W.fnOf "cost" "cost" (defArgs sCost) (defBody sCost) (defScope sCost) .none kV_cost dc_cost pm_cost an_cost cd_cost ct_cost), sl_cost⟩)
    (c_cost : PySem.W.codeIn K cd_cost "cost" = true)
    (k_cost : PySem.W.keepIn K (.ref f_cost) = true)
    (a_ups : PySem.W.nsIn K mainGlobals "ups" = some (some (.ref f_ups)))
    (l_ups : K.lookup f_ups = some ⟨oc_ups, od_ups, .func (PySem.W.fnOf "ups" "ups" (defArgs sUps) (defBody sUps) (defScope sUps) .none kV_ups dc_ups pm_ups an_ups cd_ups ct_ups), sl_ups⟩)
    (c_ups : PySem.W.codeIn K cd_ups "ups" = true)
    (k_ups : PySem.W.keepIn K (.ref f_ups) = true)
    (a_sum : PySem.W.nsIn K mainGlobals "sum_by_states" = some (some (.ref f_sum)))
    (l_sum : K.lookup f_sum = some ⟨oc_sum, od_sum, .func (PySem.W.fnOf "sum_by_states" "sum_by_states" (defArgs sSum) (defBody sSum) (defScope sSum) .none kV_sum dc_sum pm_sum an_sum cd_sum ct_sum), sl_sum⟩)
    (c_sum : PySem.W.codeIn K cd_sum "sum_by_states" = true)
    (k_sum : PySem.W.keepIn K (.ref f_sum) = true)
    (a_order : PySem.W.nsIn K mainGlobals "check_order" = some (some (.ref f_order)))
    (l_order : K.lookup f_order = some ⟨oc_order, od_order, .func (PySem.W.fnOf "check_order" "check_order" (defArgs sOrder) (defBody sOrder) (defScope sOrder) .none kV_order dc_order pm_order an_order cd_order ct_order), sl_order⟩)
    (c_order : PySem.W.codeIn K cd_order "check_order" = true)
    (k_order : PySem.W.keepIn K (.ref f_order) = true)
    (a_near : PySem.W.nsIn K mainGlobals "near_of" = some (some (.ref f_near)))
    (l_near : K.lookup f_near = some ⟨oc_near, od_near, .func (PySem.W.fnOf "near_of" "near_of" (defArgs sNear) (defBody sNear) (defScope sNear) .none kV_near dc_near pm_near an_near cd_near ct_near), sl_near⟩)
    (c_near : PySem.W.codeIn K cd_near "near_of" = true)
    (k_near : PySem.W.keepIn K (.ref f_near) = true)
    (a_front : PySem.W.nsIn K mainGlobals "frontier_of" = some (some (.ref f_front)))
    (l_front : K.lookup f_front = some ⟨oc_front, od_front, .func (PySem.W.fnOf "frontier_of" "frontier_of" (defArgs sFront) (defBody sFront) (defScope sFront) .none kV_front dc_front pm_front an_front cd_front ct_front), sl_front⟩)
    (c_front : PySem.W.codeIn K cd_front "frontier_of" = true)
    (k_front : PySem.W.keepIn K (.ref f_front) = true)
    (a_paid : PySem.W.nsIn K mainGlobals "paid_beside" = some (some (.ref f_paid)))
    (l_paid : K.lookup f_paid = some ⟨oc_paid, od_paid, .func (PySem.W.fnOf "paid_beside" "paid_beside" (defArgs sPaid) (defBody sPaid) (defScope sPaid) .none kV_paid dc_paid pm_paid an_paid cd_paid ct_paid), sl_paid⟩)
    (c_paid : PySem.W.codeIn K cd_paid "paid_beside" = true)
    (k_paid : PySem.W.keepIn K (.ref f_paid) = true)
    (a_trans : PySem.W.nsIn K mainGlobals "sum_by_transfer" = some (some (.ref f_trans)))
    (l_trans : K.lookup f_trans = some ⟨oc_trans, od_trans, .func (PySem.W.fnOf "sum_by_transfer" "sum_by_transfer" (defArgs sTrans) (defBody sTrans) (defScope sTrans) .none kV_trans dc_trans pm_trans an_trans cd_trans ct_trans), sl_trans⟩)
    (c_trans : PySem.W.codeIn K cd_trans "sum_by_transfer" = true)
    (k_trans : PySem.W.keepIn K (.ref f_trans) = true)
    (a_cell : PySem.W.nsIn K mainGlobals "_law_cell" = some (some (.ref f_cell)))
    (l_cell : K.lookup f_cell = some ⟨oc_cell, od_cell, .func (PySem.W.fnOf "_law_cell" "_law_cell" (defArgs sCell) (defBody sCell) (defScope sCell) .none kV_cell dc_cell pm_cell an_cell cd_cell ct_cell), sl_cell⟩)
    (c_cell : PySem.W.codeIn K cd_cell "_law_cell" = true)
    (k_cell : PySem.W.keepIn K (.ref f_cell) = true)
    (a_mix : PySem.W.nsIn K mainGlobals "_law_mix" = some (some (.ref f_mix)))
    (l_mix : K.lookup f_mix = some ⟨oc_mix, od_mix, .func (PySem.W.fnOf "_law_mix" "_law_mix" (defArgs sMix) (defBody sMix) (defScope sMix) .none kV_mix dc_mix pm_mix an_mix cd_mix ct_mix), sl_mix⟩)
    (c_mix : PySem.W.codeIn K cd_mix "_law_mix" = true)
    (k_mix : PySem.W.keepIn K (.ref f_mix) = true)
    (a_row : PySem.W.nsIn K mainGlobals "_law_row" = some (some (.ref f_row)))
    (l_row : K.lookup f_row = some ⟨oc_row, od_row, .func (PySem.W.fnOf "_law_row" "_law_row" (defArgs sRow) (defBody sRow) (defScope sRow) .none kV_row dc_row pm_row an_row cd_row ct_row), sl_row⟩)
    (c_row : PySem.W.codeIn K cd_row "_law_row" = true)
    (k_row : PySem.W.keepIn K (.ref f_row) = true)
    (a_tuples : PySem.W.nsIn K mainGlobals "_law_tuples" = some (some (.ref f_tuples)))
    (l_tuples : K.lookup f_tuples = some ⟨oc_tuples, od_tuples, .func (PySem.W.fnOf "_law_tuples" "_law_tuples" (defArgs sTuples) (defBody sTuples) (defScope sTuples) .none kV_tuples dc_tuples pm_tuples an_tuples cd_tuples ct_tuples), sl_tuples⟩)
    (c_tuples : PySem.W.codeIn K cd_tuples "_law_tuples" = true)
    (k_tuples : PySem.W.keepIn K (.ref f_tuples) = true)
    (a_ls : PySem.W.nsIn K mainGlobals "_law_spins" = some (some (.ref f_ls)))
    (l_ls : K.lookup f_ls = some ⟨oc_ls, od_ls, .func (PySem.W.fnOf "_law_spins" "_law_spins" (defArgs sLS) (defBody sLS) (defScope sLS) .none kV_ls dc_ls pm_ls an_ls cd_ls ct_ls), sl_ls⟩)
    (c_ls : PySem.W.codeIn K cd_ls "_law_spins" = true)
    (k_ls : PySem.W.keepIn K (.ref f_ls) = true)
    (a_lo : PySem.W.nsIn K mainGlobals "_law_order" = some (some (.ref f_lo)))
    (l_lo : K.lookup f_lo = some ⟨oc_lo, od_lo, .func (PySem.W.fnOf "_law_order" "_law_order" (defArgs sLO) (defBody sLO) (defScope sLO) .none kV_lo dc_lo pm_lo an_lo cd_lo ct_lo), sl_lo⟩)
    (c_lo : PySem.W.codeIn K cd_lo "_law_order" = true)
    (k_lo : PySem.W.keepIn K (.ref f_lo) = true)
    (a_lf : PySem.W.nsIn K mainGlobals "_law_flat" = some (some (.ref f_lf)))
    (l_lf : K.lookup f_lf = some ⟨oc_lf, od_lf, .func (PySem.W.fnOf "_law_flat" "_law_flat" (defArgs sLF) (defBody sLF) (defScope sLF) .none kV_lf dc_lf pm_lf an_lf cd_lf ct_lf), sl_lf⟩)
    (c_lf : PySem.W.codeIn K cd_lf "_law_flat" = true)
    (k_lf : PySem.W.keepIn K (.ref f_lf) = true)
    (a_law : PySem.W.nsIn K mainGlobals "law" = some (some (.ref f_law)))
    (l_law : K.lookup f_law = some ⟨oc_law, od_law, .func (PySem.W.fnOf "law" "law" (defArgs sLaw) (defBody sLaw) (defScope sLaw) .none kV_law dc_law pm_law an_law cd_law ct_law), sl_law⟩)
    (c_law : PySem.W.codeIn K cd_law "law" = true)
    (k_law : PySem.W.keepIn K (.ref f_law) = true)
    (a_gatI : PySem.W.findIn K (.ref CG) "__init__" = some (some (.ref f_gatI)))
    (i_gatI : PySem.W.isFn K (.ref f_gatI) = true)
    (l_gatI : K.lookup f_gatI = some ⟨oc_gatI, od_gatI, .func (PySem.W.fnOf "__init__" "Gatherer.__init__" (defArgs sGatI) (defBody sGatI) (defScope sGatI) .none kV_gatI dc_gatI pm_gatI an_gatI cd_gatI ct_gatI), sl_gatI⟩)
    (c_gatI : PySem.W.codeIn K cd_gatI "Gatherer.__init__" = true)
    (k_gatI : PySem.W.keepIn K (.ref f_gatI) = true)
    (a_total : PySem.W.findIn K (.ref CG) "total" = some (some (.ref f_total)))
    (i_total : PySem.W.isFn K (.ref f_total) = true)
    (l_total : K.lookup f_total = some ⟨oc_total, od_total, .func (PySem.W.fnOf "total" "Gatherer.total" (defArgs sTotal) (defBody sTotal) (defScope sTotal) .none kV_total dc_total pm_total an_total cd_total ct_total), sl_total⟩)
    (c_total : PySem.W.codeIn K cd_total "Gatherer.total" = true)
    (k_total : PySem.W.keepIn K (.ref f_total) = true)
    (a_put : PySem.W.findIn K (.ref CG) "_put" = some (some (.ref f_put)))
    (i_put : PySem.W.isFn K (.ref f_put) = true)
    (l_put : K.lookup f_put = some ⟨oc_put, od_put, .func (PySem.W.fnOf "_put" "Gatherer._put" (defArgs sPut) (defBody sPut) (defScope sPut) .none kV_put dc_put pm_put an_put cd_put ct_put), sl_put⟩)
    (c_put : PySem.W.codeIn K cd_put "Gatherer._put" = true)
    (k_put : PySem.W.keepIn K (.ref f_put) = true)
    (a_facI : PySem.W.findIn K (.ref CF) "__init__" = some (some (.ref f_facI)))
    (i_facI : PySem.W.isFn K (.ref f_facI) = true)
    (l_facI : K.lookup f_facI = some ⟨oc_facI, od_facI, .func (PySem.W.fnOf "__init__" "SpinFactors.__init__" (defArgs sFacI) (defBody sFacI) (defScope sFacI) .none kV_facI dc_facI pm_facI an_facI cd_facI ct_facI), sl_facI⟩)
    (c_facI : PySem.W.codeIn K cd_facI "SpinFactors.__init__" = true)
    (k_facI : PySem.W.keepIn K (.ref f_facI) = true)
    (a_of : PySem.W.findIn K (.ref CF) "of" = some (some (.ref f_of)))
    (i_of : PySem.W.isFn K (.ref f_of) = true)
    (l_of : K.lookup f_of = some ⟨oc_of, od_of, .func (PySem.W.fnOf "of" "SpinFactors.of" (defArgs sOf) (defBody sOf) (defScope sOf) .none kV_of dc_of pm_of an_of cd_of ct_of), sl_of⟩)
    (c_of : PySem.W.codeIn K cd_of "SpinFactors.of" = true)
    (k_of : PySem.W.keepIn K (.ref f_of) = true)
    (a_spinI : PySem.W.findIn K (.ref C) "__init__" = some (some (.ref f_spinI)))
    (i_spinI : PySem.W.isFn K (.ref f_spinI) = true)
    (l_spinI : K.lookup f_spinI = some ⟨oc_spinI, od_spinI, .func (PySem.W.fnOf "__init__" "Spins.__init__" (defArgs sSpinI) (defBody sSpinI) (defScope sSpinI) .none kV_spinI dc_spinI pm_spinI an_spinI cd_spinI ct_spinI), sl_spinI⟩)
    (c_spinI : PySem.W.codeIn K cd_spinI "Spins.__init__" = true)
    (k_spinI : PySem.W.keepIn K (.ref f_spinI) = true)
    (a_H : PySem.W.nsIn K mainGlobals "HasField" = some (some (.ref CH)))
    (a_E : PySem.W.nsIn K mainGlobals "FieldError" = some (some (.ref CE)))
    (x_H : PySem.W.excIn K CH [.type "ValueError", .type "Exception", .type "BaseException", .type "object"] "ValueError.__new__" = true)
    (k_H : PySem.W.keepIn K (.ref CH) = true)
    (b_H : PySem.W.subIn K (.ref CH) (.type "BaseException") = some true)
    (t_H : PySem.W.typeIn K (.ref CH) = some (.type "type"))
    (hg_H : PySem.W.findIn K (.ref CH) "__getattribute__" = some (some (.builtin "BaseException.__getattribute__")))
    (hk_H : PySem.W.findIn K (.ref CH) "__getattr__" = some none)
    (hd_H : PySem.W.hasDictIn K CH = true)
    (ha_H : PySem.W.findIn K (.ref CH) "__class__" = some (some (.builtin "object.__class__")))
    (hn_H : PySem.W.specialIn K (.builtin "object.__class__") "__get__" = some (some (.builtin "getset_descriptor.__get__")))
    (ht_H : PySem.W.takesIn K (.builtin "object.__class__") = some true)
    (hm_H : PySem.W.mroIn K CH (.type "object") = some true)
    (b_E : PySem.W.subIn K (.ref CE) (.type "BaseException") = some true)
    (hd_E : PySem.W.hasDictIn K CE = true)
    (t_E : PySem.W.typeIn K (.ref CE) = some (.type "type"))
    (s_HE : PySem.W.subIn K (.ref CH) (.ref CE) = some true)
    (a_MV : PySem.W.nsIn K mainGlobals "MOST_VERTICES" = some (some (.int 12 t_MV)))
    (a_ME : PySem.W.nsIn K mainGlobals "MOST_EDGES" = some (some (.int 24 t_ME)))
    (a_GR : PySem.W.nsIn K mainGlobals "GREATEST" = some (some (.int 9 t_GR)))
    (a_one : PySem.W.nsIn K mainGlobals "ONE" = some (some (.ref o1)))
    (l_o1 : K.lookup o1 = some ⟨.type "tuple", dd1, .seq #[.ref o2] n1, sl1⟩)
    (l_o2 : K.lookup o2 = some ⟨.type "tuple", dd2, .seq #[.ref o3, .int 1 tk1] n2, sl2⟩)
    (l_o3 : K.lookup o3 = some ⟨.type "tuple", dd3, .seq #[.int 0 tk2, .int 0 tk3] n3, sl3⟩)
    (z_len : PySem.W.nsIn K mainGlobals "len" = some none)
    (z_all : PySem.W.nsIn K mainGlobals "all" = some none)
    (z_abs : PySem.W.nsIn K mainGlobals "abs" = some none)
    (z_tuple : PySem.W.nsIn K mainGlobals "tuple" = some none)
    (z_zip : PySem.W.nsIn K mainGlobals "zip" = some none)
    (z_dict : PySem.W.nsIn K mainGlobals "dict" = some none)
    (z_sorted : PySem.W.nsIn K mainGlobals "sorted" = some none)
    (z_list : PySem.W.nsIn K mainGlobals "list" = some none)
    (z_range : PySem.W.nsIn K mainGlobals "range" = some none)
    (z_any : PySem.W.nsIn K mainGlobals "any" = some none)
    (z_sum : PySem.W.nsIn K mainGlobals "sum" = some none)
    (z_min : PySem.W.nsIn K mainGlobals "min" = some none)
    (z_max : PySem.W.nsIn K mainGlobals "max" = some none)
    (z_enumerate : PySem.W.nsIn K mainGlobals "enumerate" = some none)
    (z_int : PySem.W.nsIn K mainGlobals "int" = some none)
    (z_isinstance : PySem.W.nsIn K mainGlobals "isinstance" = some none)
    (z_bool : PySem.W.nsIn K mainGlobals "bool" = some none) :
    ∃ fd : FuncData, (∀ (s : Shared) (v : Value), BindsTo s fd ⟨[v], []⟩ [("_law_script", v)]) ∧ ∀ base : Heap, K.In base → base.Ns mainGlobals mg → FnOk l.prog w K mg base CX0 7 fa fd ["_law_script"] (spLaw K) := by
  have e := hfa.symm.trans (PySem.W.mg_of X G a_law)
  cases e
  have F_gath := fun_mk (st := sGath) l_gath c_gath k_gath
  have F_poly := fun_mk (st := sPoly) l_poly c_poly k_poly
  have F_plus := fun_mk (st := sPlus) l_plus c_plus k_plus
  have F_times := fun_mk (st := sTimes) l_times c_times k_times
  have F_shared := fun_mk (st := sShared) l_shared c_shared k_shared
  have F_joined := fun_mk (st := sJoined) l_joined c_joined k_joined
  have F_gat := fun_mk (st := sGat) l_gat c_gat k_gat
  have F_ef := fun_mk (st := sEF) l_ef c_ef k_ef
  have F_clus := fun_mk (st := sClus) l_clus c_clus k_clus
  have F_check := fun_mk (st := sCheck) l_check c_check k_check
  have F_ends := fun_mk (st := sEnds) l_ends c_ends k_ends
  have F_even := fun_mk (st := sEven) l_even c_even k_even
  have F_loops := fun_mk (st := sLoops) l_loops c_loops k_loops
  have F_states := fun_mk (st := sStates) l_states c_states k_states
  have F_all := fun_mk (st := sAll) l_all c_all k_all
  have F_cost := fun_mk (st := sCost) l_cost c_cost k_cost
  have F_ups := fun_mk (st := sUps) l_ups c_ups k_ups
  have F_sum := fun_mk (st := sSum) l_sum c_sum k_sum
  have F_order := fun_mk (st := sOrder) l_order c_order k_order
  have F_near := fun_mk (st := sNear) l_near c_near k_near
  have F_front := fun_mk (st := sFront) l_front c_front k_front
  have F_paid := fun_mk (st := sPaid) l_paid c_paid k_paid
  have F_trans := fun_mk (st := sTrans) l_trans c_trans k_trans
  have F_cell := fun_mk (st := sCell) l_cell c_cell k_cell
  have F_mix := fun_mk (st := sMix) l_mix c_mix k_mix
  have F_row := fun_mk (st := sRow) l_row c_row k_row
  have F_tuples := fun_mk (st := sTuples) l_tuples c_tuples k_tuples
  have F_ls := fun_mk (st := sLS) l_ls c_ls k_ls
  have F_lo := fun_mk (st := sLO) l_lo c_lo k_lo
  have F_lf := fun_mk (st := sLF) l_lf c_lf k_lf
  have F_law := fun_mk (st := sLaw) l_law c_law k_law
  have F_gatI := fun_mk (st := sGatI) l_gatI c_gatI k_gatI
  have F_total := fun_mk (st := sTotal) l_total c_total k_total
  have F_put := fun_mk (st := sPut) l_put c_put k_put
  have F_facI := fun_mk (st := sFacI) l_facI c_facI k_facI
  have F_of := fun_mk (st := sOf) l_of c_of k_of
  have F_spinI := fun_mk (st := sSpinI) l_spinI c_spinI k_spinI
  have b_gath := F_gath.binds (ps := ["terms"]) fun _ _ _ _ _ _ us hl => match us, hl with | [_], _ => rfl
  have b_poly := F_poly.binds (ps := ["terms"]) fun _ _ _ _ _ _ us hl => match us, hl with | [_], _ => rfl
  have b_plus := F_plus.binds (ps := ["p", "q"]) fun _ _ _ _ _ _ us hl => match us, hl with | [_, _], _ => rfl
  have b_times := F_times.binds (ps := ["p", "q"]) fun _ _ _ _ _ _ us hl => match us, hl with | [_, _], _ => rfl
  have b_shared := F_shared.binds (ps := ["p", "divisor"]) fun _ _ _ _ _ _ us hl => match us, hl with | [_, _], _ => rfl
  have b_joined := F_joined.binds (ps := ["parts", "u", "v"]) fun _ _ _ _ _ _ us hl => match us, hl with | [_, _, _], _ => rfl
  have b_gat := F_gat.binds (ps := ["spins"]) fun _ _ _ _ _ _ us hl => match us, hl with | [_], _ => rfl
  have b_ef := F_ef.binds (ps := ["spins"]) fun _ _ _ _ _ _ us hl => match us, hl with | [_], _ => rfl
  have b_clus := F_clus.binds (ps := ["spins"]) fun _ _ _ _ _ _ us hl => match us, hl with | [_], _ => rfl
  have b_check := F_check.binds (ps := ["spins"]) fun _ _ _ _ _ _ us hl => match us, hl with | [_], _ => rfl
  have b_ends := F_ends.binds (ps := ["u", "v"]) fun _ _ _ _ _ _ us hl => match us, hl with | [_, _], _ => rfl
  have b_even := F_even.binds (ps := ["edges", "inside", "outside"]) fun _ _ _ _ _ _ us hl => match us, hl with | [_, _, _], _ => rfl
  have b_loops := F_loops.binds (ps := ["spins"]) fun _ _ _ _ _ _ us hl => match us, hl with | [_], _ => rfl
  have b_states := F_states.binds (ps := ["count"]) fun _ _ _ _ _ _ us hl => match us, hl with | [_], _ => rfl
  have b_all := F_all.binds (ps := ["spins"]) fun _ _ _ _ _ _ us hl => match us, hl with | [_], _ => rfl
  have b_cost := F_cost.binds (ps := ["spins", "state"]) fun _ _ _ _ _ _ us hl => match us, hl with | [_, _], _ => rfl
  have b_ups := F_ups.binds (ps := ["state"]) fun _ _ _ _ _ _ us hl => match us, hl with | [_], _ => rfl
  have b_sum := F_sum.binds (ps := ["spins"]) fun _ _ _ _ _ _ us hl => match us, hl with | [_], _ => rfl
  have b_order := F_order.binds (ps := ["spins", "order"]) fun _ _ _ _ _ _ us hl => match us, hl with | [_, _], _ => rfl
  have b_near := F_near.binds (ps := ["spins"]) fun _ _ _ _ _ _ us hl => match us, hl with | [_], _ => rfl
  have b_front := F_front.binds (ps := ["near", "inside"]) fun _ _ _ _ _ _ us hl => match us, hl with | [_, _], _ => rfl
  have b_paid := F_paid.binds (ps := ["spins", "near", "kept", "vertex", "spin"]) fun _ _ _ _ _ _ us hl => match us, hl with | [_, _, _, _, _], _ => rfl
  have b_trans := F_trans.binds (ps := ["spins", "order"]) fun _ _ _ _ _ _ us hl => match us, hl with | [_, _], _ => rfl
  have b_cell := F_cell.binds (ps := ["_law_script", "_law_k"]) fun _ _ _ _ _ _ us hl => match us, hl with | [_, _], _ => rfl
  have b_mix := F_mix.binds (ps := ["_law_cell_here", "_law_k"]) fun _ _ _ _ _ _ us hl => match us, hl with | [_, _], _ => rfl
  have b_row := F_row.binds (ps := ["_law_cell_here", "_law_count", "_law_bound"]) fun _ _ _ _ _ _ us hl => match us, hl with | [_, _, _], _ => rfl
  have b_tuples := F_tuples.binds (ps := ["_law_thing"]) fun _ _ _ _ _ _ us hl => match us, hl with | [_], _ => rfl
  have b_ls := F_ls.binds (ps := ["_law_script", "_law_first", "_law_most", "_law_kind"]) fun _ _ _ _ _ _ us hl => match us, hl with | [_, _, _, _], _ => rfl
  have b_lo := F_lo.binds (ps := ["_law_cell_here", "_law_count"]) fun _ _ _ _ _ _ us hl => match us, hl with | [_, _], _ => rfl
  have b_lf := F_lf.binds (ps := ["_law_p"]) fun _ _ _ _ _ _ us hl => match us, hl with | [_], _ => rfl
  have b_law := F_law.binds (ps := ["_law_script"]) fun _ _ _ _ _ _ us hl => match us, hl with | [_], _ => rfl
  have b_gatI := F_gatI.binds (ps := ["self", "count", "edges"]) fun _ _ _ _ _ _ us hl => match us, hl with | [_, _, _], _ => rfl
  have b_total := F_total.binds (ps := ["self", "kept", "left_out", "factors"]) fun _ _ _ _ _ _ us hl => match us, hl with | [_, _, _, _], _ => rfl
  have b_put := F_put.binds (ps := ["self", "sums", "parts", "number", "at", "factors"]) fun _ _ _ _ _ _ us hl => match us, hl with | [_, _, _, _, _, _], _ => rfl
  have b_facI := F_facI.binds (ps := ["self", "fields"]) fun _ _ _ _ _ _ us hl => match us, hl with | [_, _], _ => rfl
  have b_of := F_of.binds (ps := ["self", "vertices"]) fun _ _ _ _ _ _ us hl => match us, hl with | [_, _], _ => rfl
  have b_spinI := F_spinI.binds (ps := ["self", "fields", "edges"]) fun _ _ _ _ _ _ us hl => match us, hl with | [_, _, _], _ => rfl
  have g_gath := PySem.W.mg_of X G a_gath
  have g_poly := PySem.W.mg_of X G a_poly
  have g_plus := PySem.W.mg_of X G a_plus
  have g_times := PySem.W.mg_of X G a_times
  have g_shared := PySem.W.mg_of X G a_shared
  have g_joined := PySem.W.mg_of X G a_joined
  have g_gat := PySem.W.mg_of X G a_gat
  have g_ef := PySem.W.mg_of X G a_ef
  have g_clus := PySem.W.mg_of X G a_clus
  have g_check := PySem.W.mg_of X G a_check
  have g_ends := PySem.W.mg_of X G a_ends
  have g_even := PySem.W.mg_of X G a_even
  have g_loops := PySem.W.mg_of X G a_loops
  have g_states := PySem.W.mg_of X G a_states
  have g_all := PySem.W.mg_of X G a_all
  have g_cost := PySem.W.mg_of X G a_cost
  have g_ups := PySem.W.mg_of X G a_ups
  have g_sum := PySem.W.mg_of X G a_sum
  have g_order := PySem.W.mg_of X G a_order
  have g_near := PySem.W.mg_of X G a_near
  have g_front := PySem.W.mg_of X G a_front
  have g_paid := PySem.W.mg_of X G a_paid
  have g_trans := PySem.W.mg_of X G a_trans
  have g_cell := PySem.W.mg_of X G a_cell
  have g_mix := PySem.W.mg_of X G a_mix
  have g_row := PySem.W.mg_of X G a_row
  have g_tuples := PySem.W.mg_of X G a_tuples
  have g_ls := PySem.W.mg_of X G a_ls
  have g_lo := PySem.W.mg_of X G a_lo
  have g_lf := PySem.W.mg_of X G a_lf
  have g_law := PySem.W.mg_of X G a_law
  have g_C := PySem.W.mg_of X G a_C
  have g_CG := PySem.W.mg_of X G a_CG
  have g_CF := PySem.W.mg_of X G a_CF
  have g_H := PySem.W.mg_of X G a_H
  have g_E := PySem.W.mg_of X G a_E
  have g_MV := PySem.W.mg_of X G a_MV
  have g_ME := PySem.W.mg_of X G a_ME
  have g_GR := PySem.W.mg_of X G a_GR
  have g_one := PySem.W.mg_of X G a_one
  have m_len := PySem.W.mg_none_of X G z_len
  have m_all := PySem.W.mg_none_of X G z_all
  have m_abs := PySem.W.mg_none_of X G z_abs
  have m_tuple := PySem.W.mg_none_of X G z_tuple
  have m_zip := PySem.W.mg_none_of X G z_zip
  have m_dict := PySem.W.mg_none_of X G z_dict
  have m_sorted := PySem.W.mg_none_of X G z_sorted
  have m_list := PySem.W.mg_none_of X G z_list
  have m_range := PySem.W.mg_none_of X G z_range
  have m_any := PySem.W.mg_none_of X G z_any
  have m_sum := PySem.W.mg_none_of X G z_sum
  have m_min := PySem.W.mg_none_of X G z_min
  have m_max := PySem.W.mg_none_of X G z_max
  have m_enumerate := PySem.W.mg_none_of X G z_enumerate
  have m_int := PySem.W.mg_none_of X G z_int
  have m_isinstance := PySem.W.mg_none_of X G z_isinstance
  have m_bool := PySem.W.mg_none_of X G z_bool
  have T : SpinTxt K C := ⟨⟨pg_C, hd_C, po_C, sa_C⟩, n0_C, n1_C⟩
  have TG : GatTxt K CG := ⟨⟨pg_CG, hd_CG, po_CG, sa_CG⟩, n0_CG, n1_CG, n2_CG⟩
  have TF : FacTxt K CF := ⟨⟨pg_CF, hd_CF, po_CF, sa_CF⟩, n0_CF⟩
  refine ⟨PySem.W.fnOf "law" "law" (defArgs sLaw) (defBody sLaw) (defScope sLaw) .none kV_law dc_law pm_law an_law cd_law ct_law, fun s v => .of_eq rfl, fun base _ _ => ?_⟩
  have q_gath := ok_gath (P := l.prog) (w := w) (mg := mg) (base := base) F_gath m_tuple m_sorted
  have q_poly := ok_poly F_poly q_gath g_gath k_gath b_gath
  have q_plus := ok_plus F_plus q_poly g_poly k_poly b_poly
  have q_times := ok_times F_times q_gath g_gath k_gath b_gath
  have q_shared := ok_shared (P := l.prog) (w := w) (mg := mg) (base := base) F_shared m_any m_tuple
  have q_joined := ok_joined (P := l.prog) (w := w) (mg := mg) (base := base) F_joined m_min m_max m_tuple
  have q_ends := ok_ends (P := l.prog) (w := w) (mg := mg) (base := base) F_ends
  have q_spinI := ok_spinI (P := l.prog) (w := w) (mg := mg) (base := base) F_spinI T m_len m_all m_abs m_tuple g_MV ⟨_, rfl⟩ g_ME ⟨_, rfl⟩ g_GR ⟨_, rfl⟩
  have q_states := ok_states (P := l.prog) (w := w) (mg := mg) (base := base) F_states m_range
  have q_all := ok_all F_all T q_states g_states k_states b_states m_len
  have q_cost := ok_cost (P := l.prog) (w := w) (mg := mg) (base := base) F_cost T m_sum m_zip
  have q_ups := ok_ups (P := l.prog) (w := w) (mg := mg) (base := base) F_ups m_sum
  have q_sum := ok_sum F_sum q_all g_all k_all b_all q_cost g_cost k_cost b_cost q_ups g_ups k_ups b_ups q_poly g_poly k_poly b_poly
  have q_order := ok_order (P := l.prog) (w := w) (mg := mg) (base := base) F_order T m_sorted m_list m_range m_len
  have q_near := ok_near (P := l.prog) (w := w) (mg := mg) (base := base) F_near T
  have q_front := ok_front (P := l.prog) (w := w) (mg := mg) (base := base) F_front m_sorted m_any
  have q_paid := ok_paid (P := l.prog) (w := w) (mg := mg) (base := base) F_paid T m_sum
  have q_trans := ok_trans F_trans q_order g_order k_order b_order q_near g_near k_near b_near q_front g_front k_front b_front q_paid g_paid k_paid b_paid q_plus g_plus k_plus b_plus q_times g_times k_times b_times m_zip m_dict m_tuple
  have q_facI := ok_facI (P := l.prog) (w := w) (mg := mg) (base := base) F_facI TF
  have q_of := ok_of F_of TF q_poly g_poly k_poly b_poly m_sum m_len
  have q_gatI := ok_gatI (P := l.prog) (w := w) (mg := mg) (base := base) F_gatI TG m_enumerate
  have q_put := ok_put F_put TG TF m_enumerate m_list m_all m_tuple q_plus g_plus k_plus b_plus q_times g_times k_times b_times q_of ⟨a_of, i_of, k_of⟩ b_of
  have q_total := ok_total F_total TG (one_dp l_o1 l_o2 l_o3) g_one rfl m_enumerate m_range m_tuple q_put ⟨a_put, i_put, k_put⟩ b_put q_times g_times k_times b_times q_joined g_joined k_joined b_joined
  have q_gat := ok_gat F_gat T ⟨mk_CG, a_gatI, i_gatI, kc_CG⟩ q_gatI g_CG b_gatI m_len
  have q_ef := ok_ef F_ef T q_poly g_poly k_poly b_poly
  have q_clus := ok_clus F_clus T TG q_ef g_ef k_ef b_ef q_gat g_gat k_gat b_gat q_total ⟨a_total, i_total, k_total⟩ b_total ⟨mk_CF, a_facI, i_facI, kc_CF⟩ q_facI g_CF b_facI
  have q_check := ok_check (P := l.prog) (w := w) (mg := mg) (base := base) F_check T m_any x_H PySem.F.excBase_ValueError g_H k_H b_H t_H
  have q_even := ok_even F_even m_zip q_ends g_ends k_ends b_ends q_plus g_plus k_plus b_plus q_times g_times k_times b_times
  have q_loops := ok_loops F_loops T m_len q_check g_check k_check b_check q_poly g_poly k_poly b_poly q_even g_even k_even b_even q_times g_times k_times b_times q_shared g_shared k_shared b_shared
  have q_cell := ok_cell (P := l.prog) (w := w) (mg := mg) (base := base) F_cell m_len m_int
  have q_mix := ok_mix (P := l.prog) (w := w) (K := K) (mg := mg) (base := base) F_mix m_int
  have q_row := ok_row F_row m_abs m_range m_int q_mix g_mix k_mix b_mix
  have q_tuples := ok_tuples (P := l.prog) (w := w) (mg := mg) (base := base) F_tuples m_isinstance m_tuple m_all m_int m_bool g_tuples k_tuples b_tuples 4
  have q_ls := ok_LS F_ls m_range m_len m_abs q_cell g_cell k_cell b_cell q_row g_row k_row b_row
  have q_lo := ok_LO F_lo m_range m_len m_list q_row g_row k_row b_row
  have q_lf := ok_LF (P := l.prog) (w := w) (mg := mg) (base := base) F_lf m_tuple m_sorted
  exact ok_law F_law ⟨m_len, m_isinstance, m_tuple, m_min, m_sum, m_sorted⟩ T q_cell g_cell k_cell b_cell q_ls g_ls k_ls b_ls ⟨mk_C, a_spinI, i_spinI, kc_C⟩ q_spinI g_C b_spinI q_sum g_sum k_sum b_sum q_tuples g_tuples k_tuples b_tuples q_lo g_lo k_lo b_lo
    q_trans g_trans k_trans b_trans q_clus g_clus k_clus b_clus q_loops g_loops k_loops b_loops q_lf g_lf k_lf b_lf g_E g_H ⟨hg_H, hk_H, b_H, hd_H, ha_H, hn_H, ht_H, hm_H⟩ (PySem.W.exm_ref b_E hd_E t_E s_HE) (by unfold PySem.W.kitOne; rw [if_pos (beq_self_eq_true _)])
end SFW

set_option maxRecDepth 100000
/-! # The law, whole -/
open PySem PySem.W PyProof.Rows
set_option maxHeartbeats 0 in
theorem PySem.Challenge.cw_spinfield_k12_whole_roads_holds : PySem.Challenge.rw_spinfield_k12_whole_roads.Holds := by
  w_on; o_law; k_head; (case hw => w_witness2)
  k_fill
  refine L2.walk_of (l := PySem.Challenge.rw_spinfield_k12_whole_roads) (n := 63) (k := 7) (x := "_law_script") (CX := fun _ => L2.CX0) (sp := fun w => SFW.spLaw _) rfl (by decide) rfl ⟨rfl, by decide, by decide⟩ (fun w h Y => PySem.W.kIn_of Y) ?F (fun _ _ a ns hl _ hS => ⟨a, ns, rfl, hS, hl, fun _ => rfl⟩) (fun _ _ _ _ _ h => h)
  case F =>
    intro w mg fa h KX G hmg
    refine' SFW.all_mk KX G hmg ?a_C ?pg_C ?hd_C ?po_C ?sa_C ?mk_C ?kc_C ?n0_C ?n1_C ?a_CG ?pg_CG ?hd_CG ?po_CG ?sa_CG ?mk_CG ?kc_CG ?n0_CG ?n1_CG ?n2_CG ?a_CF ?pg_CF ?hd_CF ?po_CF ?sa_CF ?mk_CF ?kc_CF ?n0_CF ?a_gath ?l_gath ?c_gath ?k_gath ?a_poly ?l_poly ?c_poly ?k_poly ?a_plus ?l_plus ?c_plus ?k_plus ?a_times ?l_times ?c_times ?k_times ?a_shared ?l_shared ?c_shared ?k_shared ?a_joined ?l_joined ?c_joined ?k_joined ?a_gat ?l_gat ?c_gat ?k_gat ?a_ef ?l_ef ?c_ef ?k_ef ?a_clus ?l_clus ?c_clus ?k_clus ?a_check ?l_check ?c_check ?k_check ?a_ends ?l_ends ?c_ends ?k_ends ?a_even ?l_even ?c_even ?k_even ?a_loops ?l_loops ?c_loops ?k_loops ?a_states ?l_states ?c_states ?k_states ?a_all ?l_all ?c_all ?k_all ?a_cost ?l_cost ?c_cost ?k_cost ?a_ups ?l_ups ?c_ups ?k_ups ?a_sum ?l_sum ?c_sum ?k_sum ?a_order ?l_order ?c_order ?k_order ?a_near ?l_near ?c_near ?k_near ?a_front ?l_front ?c_front ?k_front ?a_paid ?l_paid ?c_paid ?k_paid ?a_trans ?l_trans ?c_trans ?k_trans ?a_cell ?l_cell ?c_cell ?k_cell ?a_mix ?l_mix ?c_mix ?k_mix ?a_row ?l_row ?c_row ?k_row ?a_tuples ?l_tuples ?c_tuples ?k_tuples ?a_ls ?l_ls ?c_ls ?k_ls ?a_lo ?l_lo ?c_lo ?k_lo ?a_lf ?l_lf ?c_lf ?k_lf ?a_law ?l_law ?c_law ?k_law ?a_gatI ?i_gatI ?l_gatI ?c_gatI ?k_gatI ?a_total ?i_total ?l_total ?c_total ?k_total ?a_put ?i_put ?l_put ?c_put ?k_put ?a_facI ?i_facI ?l_facI ?c_facI ?k_facI ?a_of ?i_of ?l_of ?c_of ?k_of ?a_spinI ?i_spinI ?l_spinI ?c_spinI ?k_spinI ?a_H ?a_E ?x_H ?k_H ?b_H ?t_H ?hg_H ?hk_H ?hd_H ?ha_H ?hn_H ?ht_H ?hm_H ?b_E ?hd_E ?t_E ?s_HE ?a_MV ?a_ME ?a_GR ?a_one ?l_o1 ?l_o2 ?l_o3 ?z_len ?z_all ?z_abs ?z_tuple ?z_zip ?z_dict ?z_sorted ?z_list ?z_range ?z_any ?z_sum ?z_min ?z_max ?z_enumerate ?z_int ?z_isinstance ?z_bool
    (case a_C => k_is)
    (case pg_C => k_is)
    (case hd_C => k_is)
    (case po_C => k_is)
    (case sa_C => k_is)
    (case mk_C => k_is)
    (case kc_C => k_is)
    (case n0_C => k_is)
    (case n1_C => k_is)
    (case a_CG => k_is)
    (case pg_CG => k_is)
    (case hd_CG => k_is)
    (case po_CG => k_is)
    (case sa_CG => k_is)
    (case mk_CG => k_is)
    (case kc_CG => k_is)
    (case n0_CG => k_is)
    (case n1_CG => k_is)
    (case n2_CG => k_is)
    (case a_CF => k_is)
    (case pg_CF => k_is)
    (case hd_CF => k_is)
    (case po_CF => k_is)
    (case sa_CF => k_is)
    (case mk_CF => k_is)
    (case kc_CF => k_is)
    (case n0_CF => k_is)
    (case a_gath => k_is)
    (case l_gath => k_is)
    (case c_gath => k_is)
    (case k_gath => k_is)
    (case a_poly => k_is)
    (case l_poly => k_is)
    (case c_poly => k_is)
    (case k_poly => k_is)
    (case a_plus => k_is)
    (case l_plus => k_is)
    (case c_plus => k_is)
    (case k_plus => k_is)
    (case a_times => k_is)
    (case l_times => k_is)
    (case c_times => k_is)
    (case k_times => k_is)
    (case a_shared => k_is)
    (case l_shared => k_is)
    (case c_shared => k_is)
    (case k_shared => k_is)
    (case a_joined => k_is)
    (case l_joined => k_is)
    (case c_joined => k_is)
    (case k_joined => k_is)
    (case a_gat => k_is)
    (case l_gat => k_is)
    (case c_gat => k_is)
    (case k_gat => k_is)
    (case a_ef => k_is)
    (case l_ef => k_is)
    (case c_ef => k_is)
    (case k_ef => k_is)
    (case a_clus => k_is)
    (case l_clus => k_is)
    (case c_clus => k_is)
    (case k_clus => k_is)
    (case a_check => k_is)
    (case l_check => k_is)
    (case c_check => k_is)
    (case k_check => k_is)
    (case a_ends => k_is)
    (case l_ends => k_is)
    (case c_ends => k_is)
    (case k_ends => k_is)
    (case a_even => k_is)
    (case l_even => k_is)
    (case c_even => k_is)
    (case k_even => k_is)
    (case a_loops => k_is)
    (case l_loops => k_is)
    (case c_loops => k_is)
    (case k_loops => k_is)
    (case a_states => k_is)
    (case l_states => k_is)
    (case c_states => k_is)
    (case k_states => k_is)
    (case a_all => k_is)
    (case l_all => k_is)
    (case c_all => k_is)
    (case k_all => k_is)
    (case a_cost => k_is)
    (case l_cost => k_is)
    (case c_cost => k_is)
    (case k_cost => k_is)
    (case a_ups => k_is)
    (case l_ups => k_is)
    (case c_ups => k_is)
    (case k_ups => k_is)
    (case a_sum => k_is)
    (case l_sum => k_is)
    (case c_sum => k_is)
    (case k_sum => k_is)
    (case a_order => k_is)
    (case l_order => k_is)
    (case c_order => k_is)
    (case k_order => k_is)
    (case a_near => k_is)
    (case l_near => k_is)
    (case c_near => k_is)
    (case k_near => k_is)
    (case a_front => k_is)
    (case l_front => k_is)
    (case c_front => k_is)
    (case k_front => k_is)
    (case a_paid => k_is)
    (case l_paid => k_is)
    (case c_paid => k_is)
    (case k_paid => k_is)
    (case a_trans => k_is)
    (case l_trans => k_is)
    (case c_trans => k_is)
    (case k_trans => k_is)
    (case a_cell => k_is)
    (case l_cell => k_is)
    (case c_cell => k_is)
    (case k_cell => k_is)
    (case a_mix => k_is)
    (case l_mix => k_is)
    (case c_mix => k_is)
    (case k_mix => k_is)
    (case a_row => k_is)
    (case l_row => k_is)
    (case c_row => k_is)
    (case k_row => k_is)
    (case a_tuples => k_is)
    (case l_tuples => k_is)
    (case c_tuples => k_is)
    (case k_tuples => k_is)
    (case a_ls => k_is)
    (case l_ls => k_is)
    (case c_ls => k_is)
    (case k_ls => k_is)
    (case a_lo => k_is)
    (case l_lo => k_is)
    (case c_lo => k_is)
    (case k_lo => k_is)
    (case a_lf => k_is)
    (case l_lf => k_is)
    (case c_lf => k_is)
    (case k_lf => k_is)
    (case a_law => k_is)
    (case l_law => k_is)
    (case c_law => k_is)
    (case k_law => k_is)
    (case a_gatI => k_is)
    (case i_gatI => k_is)
    (case l_gatI => k_is)
    (case c_gatI => k_is)
    (case k_gatI => k_is)
    (case a_total => k_is)
    (case i_total => k_is)
    (case l_total => k_is)
    (case c_total => k_is)
    (case k_total => k_is)
    (case a_put => k_is)
    (case i_put => k_is)
    (case l_put => k_is)
    (case c_put => k_is)
    (case k_put => k_is)
    (case a_facI => k_is)
    (case i_facI => k_is)
    (case l_facI => k_is)
    (case c_facI => k_is)
    (case k_facI => k_is)
    (case a_of => k_is)
    (case i_of => k_is)
    (case l_of => k_is)
    (case c_of => k_is)
    (case k_of => k_is)
    (case a_spinI => k_is)
    (case i_spinI => k_is)
    (case l_spinI => k_is)
    (case c_spinI => k_is)
    (case k_spinI => k_is)
    (case a_H => k_is)
    (case a_E => k_is)
    (case x_H => k_exc)
    (case k_H => k_is)
    (case b_H => k_is)
    (case t_H => k_is)
    (case hg_H => k_is)
    (case hk_H => k_is)
    (case hd_H => k_is)
    (case ha_H => k_is)
    (case hn_H => k_is)
    (case ht_H => k_is)
    (case hm_H => k_is)
    (case b_E => k_is)
    (case hd_E => k_is)
    (case t_E => k_is)
    (case s_HE => k_is)
    (case a_MV => k_is)
    (case a_ME => k_is)
    (case a_GR => k_is)
    (case a_one => k_is)
    (case l_o1 => k_is)
    (case l_o2 => k_is)
    (case l_o3 => k_is)
    (case z_len => k_is)
    (case z_all => k_is)
    (case z_abs => k_is)
    (case z_tuple => k_is)
    (case z_zip => k_is)
    (case z_dict => k_is)
    (case z_sorted => k_is)
    (case z_list => k_is)
    (case z_range => k_is)
    (case z_any => k_is)
    (case z_sum => k_is)
    (case z_min => k_is)
    (case z_max => k_is)
    (case z_enumerate => k_is)
    (case z_int => k_is)
    (case z_isinstance => k_is)
    (case z_bool => k_is)

