import PyProof.Rows.All
import HandS.ForMost
import HandS.Exc
import HandS.TryOnly
import HandS.ExcOwn
import HandS.WordsExc
import HandS.Deep
import HandS.Wide
import HandS.IsInst
import HandS.TupLe
import HandS.CallSlots
import HandS.TupSets
import HandS.SortInts
import HandS.Strs
import HandS.Zip
import HandS.SortRule
import HandS.Conv
import HandS.HeadEnd
import HandS.HeadHook1
import HandS.HeadHook2
import HandS.HeadHook4
import HandS.Defaults
import KE.KStateDown
import Lean
import HandS.Head0
import HandS.Head1
import HandS.Head2
import PySem.Challenge.RW_switchways_k94_across_omega_nets_and_but
set_option Elab.async false
set_option linter.all false
set_option maxRecDepth 100000
namespace VS
open PySem PySem.Spec L2
open PyProof.Rows hiding St
/-! ### values and results -/
abbrev D := PyData
structure Ex where
  cls : Str
  fs : List (Str × D)
inductive R (α : Type) where
  | ok (a : α)
  | ex (x : Ex)
  | no
def R.bd {α β : Type} : R α → (α → R β) → R β
  | .ok a, f => f a
  | .ex x, _ => .ex x
  | .no, _ => .no
instance : Monad R where
  pure := R.ok
  bind := R.bd
@[simp] theorem ok_bind {α β : Type} (a : α) (f : α → R β) : (R.ok a >>= f) = f a := rfl
@[simp] theorem ex_bind {α β : Type} (x : Ex) (f : α → R β) : ((R.ex x : R α) >>= f) = .ex x := rfl
@[simp] theorem no_bind {α β : Type} (f : α → R β) : ((R.no : R α) >>= f) = .no := rfl
@[simp] theorem pure_ok {α : Type} (a : α) : (pure a : R α) = .ok a := rfl
/-! ### who owns the lists -/
inductive Ty where
  | S | F | L (t : Ty)
  deriving DecidableEq, Repr
def Ty.el : Ty → Ty
  | .S => .S
  | .F => .F
  | .L t => t
def Ty.tu : Ty → Ty
  | .S => .S
  | .F => .F
  | .L _ => .S
def keyD : Key → D
  | .inl i => .int i
  | .inr x => .str x
/-- a dict's keys and values, tracked as it is -/
def DcW (H : Hp) (a : Addr) (ks : List D) (vs : List V) : Prop :=
  (∃ l : List (Key × V), H a = some (.dK l) ∧ ks = l.map (fun p => keyD p.1) ∧ vs = l.map (·.2)) ∨
  (∃ l : List (List Key × V), H a = some (.dT l) ∧ ks = l.map (fun p => .tuple (p.1.map keyD)) ∧ vs = l.map (·.2))
def DcR (H : Hp) (a : Addr) (ks : List D) (vs : List V) : Prop :=
  DcW H a ks vs ∨
  (∃ (o : Obj) (l : List (Key × V)), H a = some (.frz o (.dK l)) ∧ ks = l.map (fun p => keyD p.1) ∧ vs = l.map (·.2)) ∨
  (∃ (o : Obj) (l : List (List Key × V)), H a = some (.frz o (.dT l)) ∧ ks = l.map (fun p => .tuple (p.1.map keyD)) ∧ vs = l.map (·.2))
/-- where a list's or a dict's own node goes -/
def Nd (t : Ty) (a : Addr) (o' s' o s : List Addr) : Prop := match t with
  | .S => o = o' ∧ s = a :: s'
  | _ => o = a :: o' ∧ s = s'
def LsA (K : PySem.W.Frag) (H : Hp) (t : Ty) (a : Addr) (vs : List V) : Prop := match t with
  | .S => SqL K H a vs
  | _ => H a = some (.lst vs)
theorem DcW.same {H H' : Hp} {a : Addr} {ks : List D} {vs : List V} (e : H' a = H a) (h : DcW H a ks vs) : DcW H' a ks vs := by
  unfold DcW at *; rw [e]; exact h
theorem DcR.same {H H' : Hp} {a : Addr} {ks : List D} {vs : List V} (e : H' a = H a) (h : DcR H a ks vs) : DcR H' a ks vs := by
  unfold DcR DcW at *; rw [e]; exact h
theorem DcW.there {H : Hp} {a : Addr} {ks : List D} {vs : List V} (h : DcW H a ks vs) : ∃ u, H a = some u ∧ Mut (some u) := by
  rcases h with ⟨l, h, _⟩ | ⟨l, h, _⟩ <;> exact ⟨_, h, trivial⟩
theorem DcR.tuple {H : Hp} {a : Addr} {ks : List D} {vs xs : List V} (h : DcR H a ks vs) (r : Rd H a (.tup xs)) : False := by
  rcases r with r | ⟨o, r⟩
  · rcases h with (⟨l, h, _⟩ | ⟨l, h, _⟩) | ⟨o, l, h, _⟩ | ⟨o, l, h, _⟩ <;> (rw [r] at h; cases h)
  · rcases h with (⟨l, h, _⟩ | ⟨l, h, _⟩) | ⟨o, l, h, _⟩ | ⟨o, l, h, _⟩ <;> (rw [r] at h; cases h)
def DcA (H : Hp) (t : Ty) (a : Addr) (ks : List D) (vs : List V) : Prop := match t with
  | .S => DcR H a ks vs
  | _ => DcW H a ks vs
section
variable (K : PySem.W.Frag) (H : Hp)
mutual
/-- the value v stands for the data d; o: the nodes owned with it, s: the shared ones -/
def Rw : D → Ty → V → List Addr → List Addr → Prop
  | .none, _, v, o, s => v = .non ∧ o = [] ∧ s = []
  | .bool b, _, v, o, s => v = .bl b ∧ o = [] ∧ s = []
  | .int i, _, v, o, s => v = .int i ∧ o = [] ∧ s = []
  | .str x, _, v, o, s => v = .str x ∧ o = [] ∧ s = []
  | .tuple ds, t, v, o, s => ∃ a vs, v = .ref a ∧ SqT K H a vs ∧ RwL ds t.tu vs o s
  | .list ds, t, v, o, s => ∃ a vs o' s', v = .ref a ∧ LsA K H t a vs ∧ RwL ds t.el vs o' s' ∧ Nd t a o' s' o s
  | .dict kds, t, v, o, s => ∃ a vs o' s', v = .ref a ∧ DcA H t a (kds.map (·.1)) vs ∧ RwK kds t.el vs o' s' ∧ Nd t a o' s' o s
def RwL : List D → Ty → List V → List Addr → List Addr → Prop
  | [], _, vs, o, s => vs = [] ∧ o = [] ∧ s = []
  | d :: ds, t, vs, o, s => ∃ v vs' o1 s1 o2 s2, vs = v :: vs' ∧ o = o1 ++ o2 ∧ s = s1 ++ s2 ∧ Rw d t v o1 s1 ∧ RwL ds t vs' o2 s2
def RwK : List (D × D) → Ty → List V → List Addr → List Addr → Prop
  | [], _, vs, o, s => vs = [] ∧ o = [] ∧ s = []
  | (_, d) :: ds, t, vs, o, s => ∃ v vs' o1 s1 o2 s2, vs = v :: vs' ∧ o = o1 ++ o2 ∧ s = s1 ++ s2 ∧ Rw d t v o1 s1 ∧ RwK ds t vs' o2 s2
end
end
section
variable {K : PySem.W.Frag} {H H' : Hp} {t : Ty} {v : V} {o s : List Addr}
theorem rw_non : Rw K H .none t v o s ↔ v = .non ∧ o = [] ∧ s = [] := by rw [Rw]
theorem rw_bl {b : Bool} : Rw K H (.bool b) t v o s ↔ v = .bl b ∧ o = [] ∧ s = [] := by rw [Rw]
theorem rw_int {b : Int} : Rw K H (.int b) t v o s ↔ v = .int b ∧ o = [] ∧ s = [] := by rw [Rw]
theorem rw_str {b : Str} : Rw K H (.str b) t v o s ↔ v = .str b ∧ o = [] ∧ s = [] := by rw [Rw]
theorem rw_tup {ds : List D} : Rw K H (.tuple ds) t v o s ↔ ∃ a vs, v = .ref a ∧ SqT K H a vs ∧ RwL K H ds t.tu vs o s := by rw [Rw]
theorem rw_lst {ds : List D} : Rw K H (.list ds) t v o s ↔ ∃ a vs o' s', v = .ref a ∧ LsA K H t a vs ∧ RwL K H ds t.el vs o' s' ∧ Nd t a o' s' o s := by rw [Rw]
theorem rw_dct {kds : List (D × D)} : Rw K H (.dict kds) t v o s ↔ ∃ a vs o' s', v = .ref a ∧ DcA H t a (kds.map (·.1)) vs ∧ RwK K H kds t.el vs o' s' ∧ Nd t a o' s' o s := by rw [Rw]
theorem rwl_nil {vs : List V} : RwL K H [] t vs o s ↔ vs = [] ∧ o = [] ∧ s = [] := by rw [RwL]
theorem rwl_cons {vs : List V} {d : D} {ds : List D} : RwL K H (d :: ds) t vs o s ↔ ∃ v vs' o1 s1 o2 s2, vs = v :: vs' ∧ o = o1 ++ o2 ∧ s = s1 ++ s2 ∧ Rw K H d t v o1 s1 ∧ RwL K H ds t vs' o2 s2 := by rw [RwL]
theorem rwk_nil {vs : List V} : RwK K H [] t vs o s ↔ vs = [] ∧ o = [] ∧ s = [] := by rw [RwK]
theorem rwk_cons {vs : List V} {p : D × D} {ds : List (D × D)} : RwK K H (p :: ds) t vs o s ↔ ∃ v vs' o1 s1 o2 s2, vs = v :: vs' ∧ o = o1 ++ o2 ∧ s = s1 ++ s2 ∧ Rw K H p.2 t v o1 s1 ∧ RwK K H ds t vs' o2 s2 := by
  obtain ⟨a, b⟩ := p
  rw [RwK]
/-- a dict's values are a list of values -/
theorem rwk_iff : ∀ {kds : List (D × D)} {vs : List V} {o s : List Addr}, RwK K H kds t vs o s ↔ RwL K H (kds.map (·.2)) t vs o s
  | [], vs, o, s => by rw [rwk_nil, List.map_nil, rwl_nil]
  | p :: kds, vs, o, s => by
    rw [rwk_cons, List.map_cons, rwl_cons]
    constructor
    · rintro ⟨v, vs', o1, s1, o2, s2, h1, h2, h3, h4, h5⟩
      exact ⟨v, vs', o1, s1, o2, s2, h1, h2, h3, h4, rwk_iff.mp h5⟩
    · rintro ⟨v, vs', o1, s1, o2, s2, h1, h2, h3, h4, h5⟩
      exact ⟨v, vs', o1, s1, o2, s2, h1, h2, h3, h4, rwk_iff.mpr h5⟩
theorem Nd.mem {t : Ty} {a b : Addr} {o' s' o s : List Addr} (h : Nd t a o' s' o s) : (b ∈ o ∨ b ∈ s) ↔ (b = a ∨ b ∈ o' ∨ b ∈ s') := by
  cases t <;> (obtain ⟨rfl, rfl⟩ := h; simp only [List.mem_cons]; grind)
/-- what a value leans on: its nodes and the tuples -/
theorem LsA.frame {a : Addr} {vs : List V} (e : H' a = H a) (h : LsA K H t a vs) : LsA K H' t a vs := by
  cases t with
  | S =>
    rcases h with (h | ⟨o, h⟩) | h
    · exact .inl (.inl (e.trans h))
    · exact .inl (.inr ⟨o, e.trans h⟩)
    · exact .inr h
  | F => exact e.trans h
  | L t => exact e.trans h
theorem DcA.frame {a : Addr} {ks : List D} {vs : List V} (e : H' a = H a) (h : DcA H t a ks vs) : DcA H' t a ks vs := by
  cases t with
  | S => exact DcR.same e h
  | F => exact DcW.same e h
  | L t => exact DcW.same e h
mutual
theorem Rw.frame (ht : ∀ b xs, Rd H b (.tup xs) → Rd H' b (.tup xs)) : ∀ (d : D) {t : Ty} {v : V} {o s : List Addr}, (∀ b, b ∈ o ∨ b ∈ s → H' b = H b) → Rw K H d t v o s → Rw K H' d t v o s
  | .none, _, _, _, _, _, h => by rw [rw_non] at *; exact h
  | .bool b, _, _, _, _, _, h => by rw [rw_bl] at *; exact h
  | .int b, _, _, _, _, _, h => by rw [rw_int] at *; exact h
  | .str b, _, _, _, _, _, h => by rw [rw_str] at *; exact h
  | .tuple ds, _, _, _, _, hb, h => by
    rw [rw_tup] at *
    obtain ⟨a, vs, e, h1, h2⟩ := h
    exact ⟨a, vs, e, h1.elim (fun z => .inl (ht _ _ z)) .inr, RwL.frame ht ds hb h2⟩
  | .list ds, _, _, _, _, hb, h => by
    rw [rw_lst] at *
    obtain ⟨a, vs, o', s', e, h1, h2, h3⟩ := h
    exact ⟨a, vs, o', s', e, h1.frame (hb a (h3.mem.mpr (.inl rfl))), RwL.frame ht ds (fun b z => hb b (h3.mem.mpr (.inr z))) h2, h3⟩
  | .dict kds, _, _, _, _, hb, h => by
    rw [rw_dct] at *
    obtain ⟨a, vs, o', s', e, h1, h2, h3⟩ := h
    exact ⟨a, vs, o', s', e, h1.frame (hb a (h3.mem.mpr (.inl rfl))), RwK.frame ht kds (fun b z => hb b (h3.mem.mpr (.inr z))) h2, h3⟩
theorem RwL.frame (ht : ∀ b xs, Rd H b (.tup xs) → Rd H' b (.tup xs)) : ∀ (d : List D) {t : Ty} {v : List V} {o s : List Addr}, (∀ b, b ∈ o ∨ b ∈ s → H' b = H b) → RwL K H d t v o s → RwL K H' d t v o s
  | [], _, _, _, _, _, h => by rw [rwl_nil] at *; exact h
  | d :: ds, _, _, _, _, hb, h => by
    rw [rwl_cons] at *
    obtain ⟨v, vs', o1, s1, o2, s2, e1, e2, e3, h1, h2⟩ := h
    subst e2 e3
    exact ⟨v, vs', o1, s1, o2, s2, e1, rfl, rfl, Rw.frame ht d (fun b z => hb b (z.imp (List.mem_append_left _) (List.mem_append_left _))) h1, RwL.frame ht ds (fun b z => hb b (z.imp (List.mem_append_right _) (List.mem_append_right _))) h2⟩
theorem RwK.frame (ht : ∀ b xs, Rd H b (.tup xs) → Rd H' b (.tup xs)) : ∀ (d : List (D × D)) {t : Ty} {v : List V} {o s : List Addr}, (∀ b, b ∈ o ∨ b ∈ s → H' b = H b) → RwK K H d t v o s → RwK K H' d t v o s
  | [], _, _, _, _, _, h => by rw [rwk_nil] at *; exact h
  | (_, d) :: ds, _, _, _, _, hb, h => by
    rw [rwk_cons] at *
    obtain ⟨v, vs', o1, s1, o2, s2, e1, e2, e3, h1, h2⟩ := h
    subst e2 e3
    exact ⟨v, vs', o1, s1, o2, s2, e1, rfl, rfl, Rw.frame ht d (fun b z => hb b (z.imp (List.mem_append_left _) (List.mem_append_left _))) h1, RwK.frame ht ds (fun b z => hb b (z.imp (List.mem_append_right _) (List.mem_append_right _))) h2⟩
end
/-! ### more is tracked -/
theorem LsA.same (e : Same H H') {a : Addr} {vs : List V} (h : LsA K H t a vs) : LsA K H' t a vs := by
  cases t with
  | S => exact e.seq h
  | F => exact e _ _ h
  | L t => exact e _ _ h
theorem DcW.grow (e : Same H H') {a : Addr} {ks : List D} {vs : List V} (h : DcW H a ks vs) : DcW H' a ks vs := by
  rcases h with ⟨l, h, r⟩ | ⟨l, h, r⟩
  · exact .inl ⟨l, e _ _ h, r⟩
  · exact .inr ⟨l, e _ _ h, r⟩
theorem DcA.same (e : Same H H') {a : Addr} {ks : List D} {vs : List V} (h : DcA H t a ks vs) : DcA H' t a ks vs := by
  cases t with
  | S =>
    rcases h with h | ⟨o, l, h, r⟩ | ⟨o, l, h, r⟩
    · exact .inl (h.grow e)
    · exact .inr (.inl ⟨o, l, e _ _ h, r⟩)
    · exact .inr (.inr ⟨o, l, e _ _ h, r⟩)
  | F => exact DcW.grow e h
  | L t => exact DcW.grow e h
theorem sqt_same (e : Same H H') {a : Addr} {xs : List V} (h : SqT K H a xs) : SqT K H' a xs := by
  rcases h with (h | ⟨o, h⟩) | h
  · exact .inl (.inl (e _ _ h))
  · exact .inl (.inr ⟨o, e _ _ h⟩)
  · exact .inr h
mutual
theorem Rw.same (e : Same H H') : ∀ (d : D) {t : Ty} {v : V} {o s : List Addr}, Rw K H d t v o s → Rw K H' d t v o s
  | .none, _, _, _, _, h => by rw [rw_non] at *; exact h
  | .bool b, _, _, _, _, h => by rw [rw_bl] at *; exact h
  | .int b, _, _, _, _, h => by rw [rw_int] at *; exact h
  | .str b, _, _, _, _, h => by rw [rw_str] at *; exact h
  | .tuple ds, _, _, _, _, h => by
    rw [rw_tup] at *
    obtain ⟨a, vs, q, h1, h2⟩ := h
    exact ⟨a, vs, q, sqt_same e h1, RwL.same e ds h2⟩
  | .list ds, _, _, _, _, h => by
    rw [rw_lst] at *
    obtain ⟨a, vs, o', s', q, h1, h2, h3⟩ := h
    exact ⟨a, vs, o', s', q, h1.same e, RwL.same e ds h2, h3⟩
  | .dict kds, _, _, _, _, h => by
    rw [rw_dct] at *
    obtain ⟨a, vs, o', s', q, h1, h2, h3⟩ := h
    exact ⟨a, vs, o', s', q, h1.same e, RwK.same e kds h2, h3⟩
theorem RwL.same (e : Same H H') : ∀ (d : List D) {t : Ty} {v : List V} {o s : List Addr}, RwL K H d t v o s → RwL K H' d t v o s
  | [], _, _, _, _, h => by rw [rwl_nil] at *; exact h
  | d :: ds, _, _, _, _, h => by
    rw [rwl_cons] at *
    obtain ⟨v, vs', o1, s1, o2, s2, e1, e2, e3, h1, h2⟩ := h
    exact ⟨v, vs', o1, s1, o2, s2, e1, e2, e3, Rw.same e d h1, RwL.same e ds h2⟩
theorem RwK.same (e : Same H H') : ∀ (d : List (D × D)) {t : Ty} {v : List V} {o s : List Addr}, RwK K H d t v o s → RwK K H' d t v o s
  | [], _, _, _, _, h => by rw [rwk_nil] at *; exact h
  | (_, d) :: ds, _, _, _, _, h => by
    rw [rwk_cons] at *
    obtain ⟨v, vs', o1, s1, o2, s2, e1, e2, e3, h1, h2⟩ := h
    exact ⟨v, vs', o1, s1, o2, s2, e1, e2, e3, Rw.same e d h1, RwK.same e ds h2⟩
end
/-- a write at a list or dict that the value does not lean on -/
theorem Rw.other {a : Addr} {u w : HO} (hm : H a = some u) (mu : Mut (some u)) {d : D} (ho : a ∉ o) (hs : a ∉ s) (h : Rw K H d t v o s) : Rw K (upd H a w) d t v o s := by
  refine Rw.frame (fun b xs hb => ?_) d (fun b hb => upd_ne ?_) h
  · have ne : b ≠ a := by
      rintro rfl
      rcases hb with hb | ⟨ob, hb⟩ <;> rw [hm] at hb <;> cases hb <;> exact mu
    rcases hb with hb | ⟨ob, hb⟩
    · exact .inl ((upd_ne ne).trans hb)
    · exact .inr ⟨ob, (upd_ne ne).trans hb⟩
  · rintro rfl
    exact hb.elim ho hs
theorem RwL.other {a : Addr} {u w : HO} (hm : H a = some u) (mu : Mut (some u)) {d : List D} {vs : List V} (ho : a ∉ o) (hs : a ∉ s) (h : RwL K H d t vs o s) : RwL K (upd H a w) d t vs o s := by
  refine RwL.frame (fun b xs hb => ?_) d (fun b hb => upd_ne ?_) h
  · have ne : b ≠ a := by
      rintro rfl
      rcases hb with hb | ⟨ob, hb⟩ <;> rw [hm] at hb <;> cases hb <;> exact mu
    rcases hb with hb | ⟨ob, hb⟩
    · exact .inl ((upd_ne ne).trans hb)
    · exact .inr ⟨ob, (upd_ne ne).trans hb⟩
  · rintro rfl
    exact hb.elim ho hs
/-! ### less is owned -/
def Ty.le : Ty → Ty → Bool
  | _, .S => true
  | .F, .F => true
  | .F, .L t => Ty.le .F t
  | .L a, .L b => Ty.le a b
  | _, _ => false
def Ty.joinF : Ty → Ty
  | .S => .S
  | .F => .F
  | .L t => .L (Ty.joinF t)
def Ty.join : Ty → Ty → Ty
  | .S, _ => .S
  | .F, b => b.joinF
  | .L _, .S => .S
  | .L t, .F => .L t.joinF
  | .L t, .L b => .L (Ty.join t b)
theorem Ty.le_S (t : Ty) : Ty.le t .S = true := by cases t <;> rfl
theorem Ty.le_joinF : ∀ a : Ty, Ty.le a a.joinF = true ∧ Ty.le .F a.joinF = true
  | .S => ⟨rfl, rfl⟩
  | .F => ⟨rfl, rfl⟩
  | .L t => Ty.le_joinF t
theorem Ty.le_join : ∀ a b : Ty, Ty.le a (Ty.join a b) = true ∧ Ty.le b (Ty.join a b) = true
  | .S, b => ⟨rfl, Ty.le_S b⟩
  | .F, b => (Ty.le_joinF b).symm
  | .L t, .S => ⟨rfl, rfl⟩
  | .L t, .F => Ty.le_joinF t
  | .L t, .L b => Ty.le_join t b
theorem Ty.le_refl : ∀ a : Ty, Ty.le a a = true
  | .S => rfl
  | .F => rfl
  | .L t => Ty.le_refl t
theorem Ty.le_tu : ∀ {a b : Ty}, Ty.le a b = true → Ty.le a.tu b.tu = true
  | _, .S, _ => Ty.le_S _
  | .F, .F, _ => rfl
  | .F, .L _, _ => rfl
  | .L _, .L _, _ => rfl
theorem Ty.le_el : ∀ {a b : Ty}, Ty.le a b = true → Ty.le a.el b.el = true
  | _, .S, _ => Ty.le_S _
  | .F, .F, _ => rfl
  | .F, .L _, h => h
  | .L _, .L _, h => h
/-- the same nodes, fewer of them owned -/
structure Less (o s o' s' : List Addr) : Prop where
  all : ∀ b, o'.count b + s'.count b = o.count b + s.count b
  own : ∀ b, o'.count b ≤ o.count b
theorem Less.refl (o s : List Addr) : Less o s o s := ⟨fun _ => rfl, fun _ => Nat.le_refl _⟩
theorem Less.app {o1 s1 o1' s1' o2 s2 o2' s2' : List Addr} (a : Less o1 s1 o1' s1') (b : Less o2 s2 o2' s2') : Less (o1 ++ o2) (s1 ++ s2) (o1' ++ o2') (s1' ++ s2') := by
  refine ⟨fun x => ?_, fun x => ?_⟩
  · have := a.all x; have := b.all x
    simp only [List.count_append]; omega
  · have := a.own x; have := b.own x
    simp only [List.count_append]; omega
theorem count_cons' (a b : Addr) (l : List Addr) : (a :: l).count b = l.count b + (if a = b then 1 else 0) := by
  rw [List.count_cons]; simp only [beq_iff_eq]
theorem Nd.less {t t' : Ty} (h : Ty.le t t' = true) {a : Addr} {o s o' s' p q : List Addr} (l : Less o' s' p q) (n : Nd t a o' s' o s) : ∃ p' q', Nd t' a p q p' q' ∧ Less o s p' q' := by
  cases t' with
  | S =>
    refine ⟨p, a :: q, ⟨rfl, rfl⟩, fun b => ?_, fun b => ?_⟩
    · have := l.all b
      cases t <;> (obtain ⟨rfl, rfl⟩ := n; rw [count_cons', count_cons']; omega)
    · have := l.own b
      cases t with
      | S => obtain ⟨rfl, rfl⟩ := n; exact this
      | F => obtain ⟨rfl, rfl⟩ := n; rw [count_cons']; omega
      | L x => obtain ⟨rfl, rfl⟩ := n; rw [count_cons']; omega
  | F =>
    have ht : t ≠ .S := by rintro rfl; exact absurd h (by decide)
    refine ⟨a :: p, q, ⟨rfl, rfl⟩, fun b => ?_, fun b => ?_⟩
    · have := l.all b
      cases t with
      | S => exact absurd rfl ht
      | _ => obtain ⟨rfl, rfl⟩ := n; rw [count_cons', count_cons']; omega
    · have := l.own b
      cases t with
      | S => exact absurd rfl ht
      | _ => obtain ⟨rfl, rfl⟩ := n; rw [count_cons', count_cons']; omega
  | L x =>
    have ht : t ≠ .S := by rintro rfl; exact absurd h (by simp [Ty.le])
    refine ⟨a :: p, q, ⟨rfl, rfl⟩, fun b => ?_, fun b => ?_⟩
    · have := l.all b
      cases t with
      | S => exact absurd rfl ht
      | _ => obtain ⟨rfl, rfl⟩ := n; rw [count_cons', count_cons']; omega
    · have := l.own b
      cases t with
      | S => exact absurd rfl ht
      | _ => obtain ⟨rfl, rfl⟩ := n; rw [count_cons', count_cons']; omega
theorem LsA.less {t t' : Ty} (h : Ty.le t t' = true) {a : Addr} {vs : List V} (l : LsA K H t a vs) : LsA K H t' a vs := by
  cases t' with
  | S => cases t with
    | S => exact l
    | F => exact SqL.of l
    | L x => exact SqL.of l
  | F => cases t <;> first | exact l | exact absurd h (by simp [Ty.le])
  | L y => cases t <;> first | exact l | exact absurd h (by simp [Ty.le])
theorem DcA.less {t t' : Ty} (h : Ty.le t t' = true) {a : Addr} {ks : List D} {vs : List V} (l : DcA H t a ks vs) : DcA H t' a ks vs := by
  cases t' with
  | S => cases t with
    | S => exact l
    | F => exact .inl l
    | L x => exact .inl l
  | F => cases t <;> first | exact l | exact absurd h (by simp [Ty.le])
  | L y => cases t <;> first | exact l | exact absurd h (by simp [Ty.le])
mutual
theorem Rw.less : ∀ (d : D) {t t' : Ty} {v : V} {o s : List Addr}, Ty.le t t' = true → Rw K H d t v o s → ∃ p q, Rw K H d t' v p q ∧ Less o s p q
  | .none, _, _, _, _, _, _, h => by rw [rw_non] at h; exact ⟨_, _, rw_non.mpr ⟨h.1, rfl, rfl⟩, by rw [h.2.1, h.2.2]; exact .refl _ _⟩
  | .bool b, _, _, _, _, _, _, h => by rw [rw_bl] at h; exact ⟨_, _, rw_bl.mpr ⟨h.1, rfl, rfl⟩, by rw [h.2.1, h.2.2]; exact .refl _ _⟩
  | .int b, _, _, _, _, _, _, h => by rw [rw_int] at h; exact ⟨_, _, rw_int.mpr ⟨h.1, rfl, rfl⟩, by rw [h.2.1, h.2.2]; exact .refl _ _⟩
  | .str b, _, _, _, _, _, _, h => by rw [rw_str] at h; exact ⟨_, _, rw_str.mpr ⟨h.1, rfl, rfl⟩, by rw [h.2.1, h.2.2]; exact .refl _ _⟩
  | .tuple ds, _, _, _, _, _, e, h => by
    rw [rw_tup] at h
    obtain ⟨a, vs, q, h1, h2⟩ := h
    obtain ⟨p, q', h3, l⟩ := RwL.less ds (Ty.le_tu e) h2
    exact ⟨p, q', rw_tup.mpr ⟨a, vs, q, h1, h3⟩, l⟩
  | .list ds, _, _, _, _, _, e, h => by
    rw [rw_lst] at h
    obtain ⟨a, vs, o', s', q, h1, h2, h3⟩ := h
    obtain ⟨p, q', h4, l⟩ := RwL.less ds (Ty.le_el e) h2
    obtain ⟨p', q'', n, l'⟩ := h3.less e l
    exact ⟨p', q'', rw_lst.mpr ⟨a, vs, p, q', q, h1.less e, h4, n⟩, l'⟩
  | .dict kds, _, _, _, _, _, e, h => by
    rw [rw_dct] at h
    obtain ⟨a, vs, o', s', q, h1, h2, h3⟩ := h
    obtain ⟨p, q', h4, l⟩ := RwK.less kds (Ty.le_el e) h2
    obtain ⟨p', q'', n, l'⟩ := h3.less e l
    exact ⟨p', q'', rw_dct.mpr ⟨a, vs, p, q', q, h1.less e, h4, n⟩, l'⟩
theorem RwL.less : ∀ (d : List D) {t t' : Ty} {v : List V} {o s : List Addr}, Ty.le t t' = true → RwL K H d t v o s → ∃ p q, RwL K H d t' v p q ∧ Less o s p q
  | [], _, _, _, _, _, _, h => by rw [rwl_nil] at h; exact ⟨_, _, rwl_nil.mpr ⟨h.1, rfl, rfl⟩, by rw [h.2.1, h.2.2]; exact .refl _ _⟩
  | d :: ds, _, _, _, _, _, e, h => by
    rw [rwl_cons] at h
    obtain ⟨v, vs', o1, s1, o2, s2, e1, rfl, rfl, h1, h2⟩ := h
    obtain ⟨p, q, h3, l⟩ := Rw.less d e h1
    obtain ⟨p', q', h4, l'⟩ := RwL.less ds e h2
    exact ⟨_, _, rwl_cons.mpr ⟨v, vs', p, q, p', q', e1, rfl, rfl, h3, h4⟩, l.app l'⟩
theorem RwK.less : ∀ (d : List (D × D)) {t t' : Ty} {v : List V} {o s : List Addr}, Ty.le t t' = true → RwK K H d t v o s → ∃ p q, RwK K H d t' v p q ∧ Less o s p q
  | [], _, _, _, _, _, _, h => by rw [rwk_nil] at h; exact ⟨_, _, rwk_nil.mpr ⟨h.1, rfl, rfl⟩, by rw [h.2.1, h.2.2]; exact .refl _ _⟩
  | (_, d) :: ds, _, _, _, _, _, e, h => by
    rw [rwk_cons] at h
    obtain ⟨v, vs', o1, s1, o2, s2, e1, rfl, rfl, h1, h2⟩ := h
    obtain ⟨p, q, h3, l⟩ := Rw.less d e h1
    obtain ⟨p', q', h4, l'⟩ := RwK.less ds e h2
    exact ⟨_, _, rwk_cons.mpr ⟨v, vs', p, q, p', q', e1, rfl, rfl, h3, h4⟩, l.app l'⟩
end
end
end VS
set_option Elab.async false
set_option linter.all false
set_option maxRecDepth 100000
namespace VS
open PySem PySem.Spec L2
open PyProof.Rows hiding St
section
variable {K : PySem.W.Frag} {H H' : Hp} {t : Ty} {v : V} {o s : List Addr}
/-! ### shared values own nothing, fresh ones share nothing -/
mutual
theorem Rw.s_o : ∀ (d : D) {v : V} {o s : List Addr}, Rw K H d .S v o s → o = []
  | .none, _, _, _, h => by rw [rw_non] at h; exact h.2.1
  | .bool b, _, _, _, h => by rw [rw_bl] at h; exact h.2.1
  | .int b, _, _, _, h => by rw [rw_int] at h; exact h.2.1
  | .str b, _, _, _, h => by rw [rw_str] at h; exact h.2.1
  | .tuple ds, _, _, _, h => by
    rw [rw_tup] at h
    obtain ⟨a, vs, q, h1, h2⟩ := h
    exact RwL.s_o ds h2
  | .list ds, _, _, _, h => by
    rw [rw_lst] at h
    obtain ⟨a, vs, o', s', q, h1, h2, rfl, h3⟩ := h
    exact RwL.s_o ds h2
  | .dict kds, _, _, _, h => by
    rw [rw_dct] at h
    obtain ⟨a, vs, o', s', q, h1, h2, rfl, h3⟩ := h
    exact RwK.s_o kds h2
theorem RwL.s_o : ∀ (d : List D) {v : List V} {o s : List Addr}, RwL K H d .S v o s → o = []
  | [], _, _, _, h => by rw [rwl_nil] at h; exact h.2.1
  | d :: ds, _, _, _, h => by
    rw [rwl_cons] at h
    obtain ⟨v, vs', o1, s1, o2, s2, e1, rfl, rfl, h1, h2⟩ := h
    rw [Rw.s_o d h1, RwL.s_o ds h2]; rfl
theorem RwK.s_o : ∀ (d : List (D × D)) {v : List V} {o s : List Addr}, RwK K H d .S v o s → o = []
  | [], _, _, _, h => by rw [rwk_nil] at h; exact h.2.1
  | (_, d) :: ds, _, _, _, h => by
    rw [rwk_cons] at h
    obtain ⟨v, vs', o1, s1, o2, s2, e1, rfl, rfl, h1, h2⟩ := h
    rw [Rw.s_o d h1, RwK.s_o ds h2]; rfl
end
mutual
theorem Rw.f_s : ∀ (d : D) {v : V} {o s : List Addr}, Rw K H d .F v o s → s = []
  | .none, _, _, _, h => by rw [rw_non] at h; exact h.2.2
  | .bool b, _, _, _, h => by rw [rw_bl] at h; exact h.2.2
  | .int b, _, _, _, h => by rw [rw_int] at h; exact h.2.2
  | .str b, _, _, _, h => by rw [rw_str] at h; exact h.2.2
  | .tuple ds, _, _, _, h => by
    rw [rw_tup] at h
    obtain ⟨a, vs, q, h1, h2⟩ := h
    exact RwL.f_s ds h2
  | .list ds, _, _, _, h => by
    rw [rw_lst] at h
    obtain ⟨a, vs, o', s', q, h1, h2, h3, rfl⟩ := h
    exact RwL.f_s ds h2
  | .dict kds, _, _, _, h => by
    rw [rw_dct] at h
    obtain ⟨a, vs, o', s', q, h1, h2, h3, rfl⟩ := h
    exact RwK.f_s kds h2
theorem RwL.f_s : ∀ (d : List D) {v : List V} {o s : List Addr}, RwL K H d .F v o s → s = []
  | [], _, _, _, h => by rw [rwl_nil] at h; exact h.2.2
  | d :: ds, _, _, _, h => by
    rw [rwl_cons] at h
    obtain ⟨v, vs', o1, s1, o2, s2, e1, rfl, rfl, h1, h2⟩ := h
    rw [Rw.f_s d h1, RwL.f_s ds h2]; rfl
theorem RwK.f_s : ∀ (d : List (D × D)) {v : List V} {o s : List Addr}, RwK K H d .F v o s → s = []
  | [], _, _, _, h => by rw [rwk_nil] at h; exact h.2.2
  | (_, d) :: ds, _, _, _, h => by
    rw [rwk_cons] at h
    obtain ⟨v, vs', o1, s1, o2, s2, e1, rfl, rfl, h1, h2⟩ := h
    rw [Rw.f_s d h1, RwK.f_s ds h2]; rfl
end
/-- what is owned is tracked and may be written -/
def MutAt (H : Hp) (a : Addr) : Prop := ∃ u, H a = some u ∧ Mut (some u)
theorem Nd.own {t : Ty} {a b : Addr} {o' s' o s : List Addr} (n : Nd t a o' s' o s) (h : b ∈ o) : (b = a ∧ t ≠ .S) ∨ b ∈ o' := by
  cases t with
  | S => obtain ⟨rfl, _⟩ := n; exact .inr h
  | F => obtain ⟨rfl, _⟩ := n; exact (List.mem_cons.mp h).imp (fun e => ⟨e, nofun⟩) id
  | L t => obtain ⟨rfl, _⟩ := n; exact (List.mem_cons.mp h).imp (fun e => ⟨e, nofun⟩) id
mutual
theorem Rw.mut : ∀ (d : D) {t : Ty} {v : V} {o s : List Addr}, Rw K H d t v o s → ∀ b ∈ o, MutAt H b
  | .none, _, _, _, _, h => by rw [rw_non] at h; rw [h.2.1]; exact fun _ z => nomatch z
  | .bool b, _, _, _, _, h => by rw [rw_bl] at h; rw [h.2.1]; exact fun _ z => nomatch z
  | .int b, _, _, _, _, h => by rw [rw_int] at h; rw [h.2.1]; exact fun _ z => nomatch z
  | .str b, _, _, _, _, h => by rw [rw_str] at h; rw [h.2.1]; exact fun _ z => nomatch z
  | .tuple ds, _, _, _, _, h => by
    rw [rw_tup] at h
    obtain ⟨a, vs, q, h1, h2⟩ := h
    exact RwL.mut ds h2
  | .list ds, t, _, _, _, h => by
    rw [rw_lst] at h
    obtain ⟨a, vs, o', s', q, h1, h2, n⟩ := h
    intro b hb
    rcases n.own hb with ⟨rfl, ne⟩ | hb
    · cases t with
      | S => exact absurd rfl ne
      | F => exact ⟨_, h1, trivial⟩
      | L t => exact ⟨_, h1, trivial⟩
    · exact RwL.mut ds h2 b hb
  | .dict kds, t, _, _, _, h => by
    rw [rw_dct] at h
    obtain ⟨a, vs, o', s', q, h1, h2, n⟩ := h
    intro b hb
    rcases n.own hb with ⟨rfl, ne⟩ | hb
    · cases t with
      | S => exact absurd rfl ne
      | F => exact DcW.there h1
      | L t => exact DcW.there h1
    · exact RwK.mut kds h2 b hb
theorem RwL.mut : ∀ (d : List D) {t : Ty} {v : List V} {o s : List Addr}, RwL K H d t v o s → ∀ b ∈ o, MutAt H b
  | [], _, _, _, _, h => by rw [rwl_nil] at h; rw [h.2.1]; exact fun _ z => nomatch z
  | d :: ds, _, _, _, _, h => by
    rw [rwl_cons] at h
    obtain ⟨v, vs', o1, s1, o2, s2, e1, rfl, rfl, h1, h2⟩ := h
    exact fun b hb => (List.mem_append.mp hb).elim (Rw.mut d h1 b) (RwL.mut ds h2 b)
theorem RwK.mut : ∀ (d : List (D × D)) {t : Ty} {v : List V} {o s : List Addr}, RwK K H d t v o s → ∀ b ∈ o, MutAt H b
  | [], _, _, _, _, h => by rw [rwk_nil] at h; rw [h.2.1]; exact fun _ z => nomatch z
  | (_, d) :: ds, _, _, _, _, h => by
    rw [rwk_cons] at h
    obtain ⟨v, vs', o1, s1, o2, s2, e1, rfl, rfl, h1, h2⟩ := h
    exact fun b hb => (List.mem_append.mp hb).elim (Rw.mut d h1 b) (RwK.mut ds h2 b)
end
/-! ### data without lists -/
mutual
def imm : D → Bool
  | .none => true
  | .bool _ => true
  | .int _ => true
  | .str _ => true
  | .tuple ds => immL ds
  | .list _ => false
  | .dict _ => false
def immL : List D → Bool
  | [] => true
  | d :: ds => imm d && immL ds
end
mutual
theorem Rw.imm : ∀ (d : D) {t : Ty} {v : V} {o s : List Addr}, imm d = true → Rw K H d t v o s → o = [] ∧ s = [] ∧ ∀ t', Rw K H d t' v [] []
  | .none, _, _, _, _, _, h => by rw [rw_non] at h; exact ⟨h.2.1, h.2.2, fun _ => rw_non.mpr ⟨h.1, rfl, rfl⟩⟩
  | .bool b, _, _, _, _, _, h => by rw [rw_bl] at h; exact ⟨h.2.1, h.2.2, fun _ => rw_bl.mpr ⟨h.1, rfl, rfl⟩⟩
  | .int b, _, _, _, _, _, h => by rw [rw_int] at h; exact ⟨h.2.1, h.2.2, fun _ => rw_int.mpr ⟨h.1, rfl, rfl⟩⟩
  | .str b, _, _, _, _, _, h => by rw [rw_str] at h; exact ⟨h.2.1, h.2.2, fun _ => rw_str.mpr ⟨h.1, rfl, rfl⟩⟩
  | .tuple ds, _, _, _, _, i, h => by
    rw [rw_tup] at h
    obtain ⟨a, vs, q, h1, h2⟩ := h
    rw [VS.imm] at i
    obtain ⟨e1, e2, h3⟩ := RwL.imm ds i h2
    exact ⟨e1, e2, fun t' => rw_tup.mpr ⟨a, vs, q, h1, h3 _⟩⟩
  | .list ds, t, _, _, _, i, h => by rw [VS.imm] at i; cases i
  | .dict kds, t, _, _, _, i, h => by rw [VS.imm] at i; cases i
theorem RwL.imm : ∀ (d : List D) {t : Ty} {v : List V} {o s : List Addr}, immL d = true → RwL K H d t v o s → o = [] ∧ s = [] ∧ ∀ t', RwL K H d t' v [] []
  | [], _, _, _, _, _, h => by rw [rwl_nil] at h; exact ⟨h.2.1, h.2.2, fun _ => rwl_nil.mpr ⟨h.1, rfl, rfl⟩⟩
  | d :: ds, _, _, _, _, i, h => by
    rw [rwl_cons] at h
    obtain ⟨v, vs', o1, s1, o2, s2, e1, rfl, rfl, h1, h2⟩ := h
    rw [immL, Bool.and_eq_true] at i
    obtain ⟨rfl, rfl, h3⟩ := Rw.imm d i.1 h1
    obtain ⟨rfl, rfl, h4⟩ := RwL.imm ds i.2 h2
    exact ⟨rfl, rfl, fun t' => rwl_cons.mpr ⟨v, vs', [], [], [], [], e1, rfl, rfl, h3 t', h4 t'⟩⟩
end
/-! ### items -/
theorem RwL.length : ∀ {d : List D} {t : Ty} {v : List V} {o s : List Addr}, RwL K H d t v o s → v.length = d.length
  | [], _, _, _, _, h => by rw [rwl_nil] at h; rw [h.1]; rfl
  | d :: ds, _, _, _, _, h => by
    rw [rwl_cons] at h
    obtain ⟨v, vs', o1, s1, o2, s2, rfl, rfl, rfl, h1, h2⟩ := h
    rw [List.length_cons, List.length_cons, RwL.length h2]
theorem RwL.item : ∀ {ds : List D} {t : Ty} {vs : List V} {o s : List Addr} {i : Nat} {d : D}, RwL K H ds t vs o s → ds[i]? = some d →
    ∃ v o' s', vs[i]? = some v ∧ Rw K H d t v o' s' ∧ o'.Sublist o ∧ s'.Sublist s
  | [], _, _, _, _, _, _, h, e => by simp at e
  | d :: ds, _, _, _, _, i, x, h, e => by
    rw [rwl_cons] at h
    obtain ⟨v, vs', o1, s1, o2, s2, rfl, rfl, rfl, h1, h2⟩ := h
    cases i with
    | zero =>
      simp at e; subst e
      exact ⟨v, o1, s1, rfl, h1, List.sublist_append_left _ _, List.sublist_append_left _ _⟩
    | succ i =>
      obtain ⟨w, o', s', e', h3, l1, l2⟩ := RwL.item (i := i) (d := x) h2 (by simpa using e)
      exact ⟨w, o', s', by simpa using e', h3, l1.trans (List.sublist_append_right _ _), l2.trans (List.sublist_append_right _ _)⟩
theorem RwL.app : ∀ {d1 d2 : List D} {t : Ty} {v1 v2 : List V} {o1 s1 o2 s2 : List Addr}, RwL K H d1 t v1 o1 s1 → RwL K H d2 t v2 o2 s2 → RwL K H (d1 ++ d2) t (v1 ++ v2) (o1 ++ o2) (s1 ++ s2)
  | [], _, _, _, _, _, _, _, _, h, h' => by
    rw [rwl_nil] at h
    obtain ⟨rfl, rfl, rfl⟩ := h
    exact h'
  | d :: ds, _, _, _, _, _, _, _, _, h, h' => by
    rw [rwl_cons] at h
    obtain ⟨v, vs', o1, s1, o2, s2, rfl, rfl, rfl, h1, h2⟩ := h
    exact rwl_cons.mpr ⟨v, _, o1, s1, _, _, rfl, List.append_assoc .., List.append_assoc .., h1, RwL.app h2 h'⟩
theorem RwL.one {d : D} (h : Rw K H d t v o s) : RwL K H [d] t [v] o s := rwl_cons.mpr ⟨v, [], o, s, [], [], rfl, by simp, by simp, h, rwl_nil.mpr ⟨rfl, rfl, rfl⟩⟩
theorem RwL.split : ∀ {d1 d2 : List D} {t : Ty} {vs : List V} {o s : List Addr}, RwL K H (d1 ++ d2) t vs o s →
    ∃ v1 v2 o1 s1 o2 s2, vs = v1 ++ v2 ∧ o = o1 ++ o2 ∧ s = s1 ++ s2 ∧ RwL K H d1 t v1 o1 s1 ∧ RwL K H d2 t v2 o2 s2
  | [], _, _, vs, o, s, h => ⟨[], vs, [], [], o, s, rfl, rfl, rfl, rwl_nil.mpr ⟨rfl, rfl, rfl⟩, h⟩
  | d :: ds, _, _, _, _, _, h => by
    rw [List.cons_append, rwl_cons] at h
    obtain ⟨v, vs', o1, s1, o2, s2, rfl, rfl, rfl, h1, h2⟩ := h
    obtain ⟨v3, v4, o3, s3, o4, s4, rfl, rfl, rfl, h3, h4⟩ := RwL.split h2
    exact ⟨v :: v3, v4, o1 ++ o3, s1 ++ s3, o4, s4, rfl, (List.append_assoc ..).symm, (List.append_assoc ..).symm, rwl_cons.mpr ⟨v, v3, o1, s1, o3, s3, rfl, rfl, rfl, h1, h3⟩, h4⟩
/-- shared items from anywhere -/
theorem RwL.gather {N : Addr → Prop} : ∀ (l : List (D × V)), (∀ p ∈ l, ∃ s, Rw K H p.1 .S p.2 [] s ∧ ∀ b ∈ s, N b) → ∃ s, RwL K H (l.map (·.1)) .S (l.map (·.2)) [] s ∧ ∀ b ∈ s, N b
  | [], _ => ⟨[], rwl_nil.mpr ⟨rfl, rfl, rfl⟩, fun _ z => nomatch z⟩
  | p :: l, h => by
    obtain ⟨s1, h1, n1⟩ := h p List.mem_cons_self
    obtain ⟨s2, h2, n2⟩ := RwL.gather l fun q hq => h q (List.mem_cons_of_mem _ hq)
    exact ⟨s1 ++ s2, rwl_cons.mpr ⟨p.2, _, [], s1, [], s2, rfl, rfl, rfl, h1, h2⟩, fun b hb => (List.mem_append.mp hb).elim (n1 b) (n2 b)⟩
/-! ### HandS' data -/
theorem LsA.sq {a : Addr} {vs : List V} (h : LsA K H t a vs) : SqL K H a vs := by
  cases t with
  | S => exact h
  | F => exact SqL.of h
  | L t => exact SqL.of h
mutual
theorem Rw.dp : ∀ (d : D) {t : Ty} {v : V} {o s : List Addr}, d.canLay0 = true → Rw K H d t v o s → Dp K H v d
  | .none, _, _, _, _, _, h => by rw [rw_non] at h; rw [h.1]; exact .non
  | .bool b, _, _, _, _, _, h => by rw [rw_bl] at h; rw [h.1]; exact .bl b
  | .int b, _, _, _, _, _, h => by rw [rw_int] at h; rw [h.1]; exact .int b
  | .str b, _, _, _, _, _, h => by rw [rw_str] at h; rw [h.1]; exact .str b
  | .tuple ds, _, _, _, _, i, h => by
    rw [rw_tup] at h
    obtain ⟨a, vs, rfl, h1, h2⟩ := h
    exact .tup h1 (RwL.dp ds (by simpa [PyData.canLay0] using i) h2)
  | .list ds, _, _, _, _, i, h => by
    rw [rw_lst] at h
    obtain ⟨a, vs, o', s', rfl, h1, h2, n⟩ := h
    exact .lst h1.sq (RwL.dp ds (by simpa [PyData.canLay0] using i) h2)
  | .dict kds, _, _, _, _, i, h => by simp [PyData.canLay0] at i
theorem RwL.dp : ∀ (d : List D) {t : Ty} {v : List V} {o s : List Addr}, PyData.canLayAll0 d = true → RwL K H d t v o s → DpAll K H v d
  | [], _, _, _, _, _, h => by rw [rwl_nil] at h; rw [h.1]; exact .nil
  | d :: ds, _, _, _, _, i, h => by
    rw [rwl_cons] at h
    obtain ⟨v, vs', o1, s1, o2, s2, rfl, rfl, rfl, h1, h2⟩ := h
    rw [PyData.canLayAll0, Bool.and_eq_true] at i
    exact .cons (Rw.dp d i.1 h1) (RwL.dp ds i.2 h2)
end
theorem Rw.lstS {ds : List D} {a : Addr} {vs : List V} (h : SqL K H a vs) (r : RwL K H ds .S vs [] s) : Rw K H (.list ds) .S (.ref a) [] (a :: s) := rw_lst.mpr ⟨a, vs, [], s, rfl, h, r, rfl, rfl⟩
theorem Rw.lstF {ds : List D} {a : Addr} {vs : List V} (h : H a = some (.lst vs)) (r : RwL K H ds .F vs o []) : Rw K H (.list ds) .F (.ref a) (a :: o) [] := rw_lst.mpr ⟨a, vs, o, [], rfl, h, r, rfl, rfl⟩
theorem Rw.lstL {ds : List D} {a : Addr} {vs : List V} (h : H a = some (.lst vs)) (r : RwL K H ds t vs o s) : Rw K H (.list ds) (.L t) (.ref a) (a :: o) s := rw_lst.mpr ⟨a, vs, o, s, rfl, h, r, rfl, rfl⟩
/-- by the value: an int is an int -/
theorem Rw.of_int {d : D} {i : Int} (h : Rw K H d t (.int i) o s) : d = .int i := by
  cases d with
  | int j => rw [rw_int] at h; injection h.1 with e; rw [e]
  | none => rw [rw_non] at h; exact nomatch h.1
  | bool b => rw [rw_bl] at h; exact nomatch h.1
  | str b => rw [rw_str] at h; exact nomatch h.1
  | tuple b => rw [rw_tup] at h; obtain ⟨_, _, e, _⟩ := h; exact nomatch e
  | list b => rw [rw_lst] at h; obtain ⟨_, _, _, _, e, _⟩ := h; exact nomatch e
  | dict b => rw [rw_dct] at h; obtain ⟨_, _, _, _, e, _⟩ := h; exact nomatch e
end
end VS
set_option Elab.async false
set_option linter.all false
set_option maxRecDepth 100000
namespace VS
open PySem PySem.Spec L2
open PyProof.Rows hiding St
/-! ### the weakest readings -/
def WE (X : Cx) (e : Expr) : TE := fun σ H Q => ∀ (pins : List (Addr × Obj)) (s : Shared), Inv X pins σ H s → wpAny (model X.prog X.w) X.A (eval e X.env) (EP X pins σ Q) X.xe s
def WT (X : Cx) (e : Expr) : TT := fun σ H Q => ∀ (pins : List (Addr × Obj)) (s : Shared), Inv X pins σ H s → wpAny (model X.prog X.w) X.A (isTrue e X.env (eval e X.env)) (TP X pins σ Q) X.xe s
def WW (X : Cx) (e : Expr) : TT := fun σ H Q => ∀ (whole : Sem Value) (pins : List (Addr × Obj)) (s : Shared), Inv X pins σ H s → wpAny (model X.prog X.w) X.A (isTrue e X.env whole) (TP X pins σ Q) X.xe s
def WA (X : Cx) (es : List Expr) : TA := fun σ H Q => ∀ (pos : Pos) (pins : List (Addr × Obj)) (s : Shared), Inv X pins σ H s → wpAny (model X.prog X.w) X.A (spliced (backTo pos (starEach es X.env))) (AP X pins σ Q) X.xe s
def WI (X : Cx) (tg iter : Expr) : TI := fun σ H R => ∀ (pins : List (Addr × Obj)) (s : Shared), Inv X pins σ H s → wpAny (model X.prog X.w) X.A (eval iter X.env) (fun v s1 => wpAny (model X.prog X.w) X.A (pyIter v) (PIE X pins σ tg R) X.xe s1) X.xe s
def WS (X : Cx) (st : Stmt) : TS := fun D σ H => ∀ (pins : List (Addr × Obj)) (s : Shared), Inv X pins σ H s → wpAny (model X.prog X.w) X.A (exec st X.env) (SP X pins D) X.xe s
def WSs (X : Cx) (st : List Stmt) : TS := fun D σ H => ∀ (pins : List (Addr × Obj)) (s : Shared), Inv X pins σ H s → wpAny (model X.prog X.w) X.A (execs st X.env) (SP X pins D) X.xe s
def WG (X : Cx) (tg : Expr) : TG := fun v σ H Q => ∀ (pins : List (Addr × Obj)) (s : Shared) (u : Value), Inv X pins σ H s → RelV v u → wpAny (model X.prog X.w) X.A (assign tg X.env u) (fun _ s' => ∃ σ' H', Inv X pins σ' H' s' ∧ Q σ' H') X.xe s
def WO (X : Cx) (f : Value → Value → Sem Value) : R2 := fun x y H Q => ∀ (pins : List (Addr × Obj)) (s : Shared) (σ : St) (v u : Value), Inv X pins σ H s → RelV x v → RelV y u → wpAny (model X.prog X.w) X.A (f v u) (EP X pins σ Q) X.xe s
def WC (X : Cx) (f : Value) : List V → Hp → VK → Prop := fun xs H Q => ∀ (pins : List (Addr × Obj)) (s : Shared) (σ : St) (us : List Value), Inv X pins σ H s → Vals xs us → wpAny (model X.prog X.w) X.A (call f us) (EP X pins σ Q) X.xe s
section
variable {X : Cx} {e : Expr} {es : List Expr} {st : Stmt} {sts : List Stmt} {tg : Expr} {σ : St} {H : Hp}
theorem pe_w : PE X e (WE X e) := ⟨fun pins s _ _ _ I h => h pins s I⟩
theorem pt_w : PT X e (WT X e) := ⟨fun pins s _ _ _ I h => h pins s I⟩
theorem pw_w : PW X e (WW X e) := ⟨fun wh pins s _ _ _ I h => h wh pins s I⟩
theorem pa_w : PA X es (WA X es) := ⟨fun pos pins s _ _ _ I h => h pos pins s I⟩
theorem pi_w : PI X tg e (WI X tg e) := ⟨fun pins s _ _ _ I h => h pins s I⟩
theorem ps_w : PS X st (WS X st) := ⟨fun pins s _ _ _ I h => h pins s I⟩
theorem pss_w : PSs X sts (WSs X sts) := ⟨fun pins s _ _ _ I h => h pins s I⟩
theorem pg_w : PG X tg (WG X tg) := ⟨fun pins s σ H v u Q I r h => h pins s u I r⟩
theorem op_w {f : Value → Value → Sem Value} : OpR X f (WO X f) := fun pins s σ H x y v u Q I rx ry h => h pins s σ v u I rx ry
theorem call_w {f : Value} : CallR X f (WC X f) := fun pins s σ H xs us Q I r h => h pins s σ us I r
theorem WE.of {t : TE} {Q : VK} (h : PE X e t) (q : t σ H Q) : WE X e σ H Q := fun pins s I => h.run pins s σ H Q I q
theorem WT.of {t : TT} {Q : Bool → Hp → Prop} (h : PT X e t) (q : t σ H Q) : WT X e σ H Q := fun pins s I => h.run pins s σ H Q I q
theorem WW.of {t : TT} {Q : Bool → Hp → Prop} (h : PW X e t) (q : t σ H Q) : WW X e σ H Q := fun wh pins s I => h.run wh pins s σ H Q I q
theorem WA.of {t : TA} {Q : List V → Hp → Prop} (h : PA X es t) (q : t σ H Q) : WA X es σ H Q := fun pos pins s I => h.run pos pins s σ H Q I q
theorem WI.of {t : TI} {R : It → Hp → Prop} (h : PI X tg e t) (q : t σ H R) : WI X tg e σ H R := fun pins s I => h.run pins s σ H R I q
theorem WS.of {t : TS} {D : Ends} (h : PS X st t) (q : t D σ H) : WS X st D σ H := fun pins s I => h.run pins s σ H D I q
theorem WSs.of {t : TS} {D : Ends} (h : PSs X sts t) (q : t D σ H) : WSs X sts D σ H := fun pins s I => h.run pins s σ H D I q
theorem WG.of {t : TG} {v : V} {Q : St → Hp → Prop} (h : PG X tg t) (q : t v σ H Q) : WG X tg v σ H Q := fun pins s u I r => h.run pins s σ H v u Q I r q
theorem WO.of {f : Value → Value → Sem Value} {r : R2} {x y : V} {Q : VK} (h : OpR X f r) (q : r x y H Q) : WO X f x y H Q := fun pins s σ v u I rx ry => h pins s σ H x y v u Q I rx ry q
theorem WC.of {f : Value} {r : List V → Hp → VK → Prop} {xs : List V} {Q : VK} (h : CallR X f r) (q : r xs H Q) : WC X f xs H Q := fun pins s σ us I rx => h pins s σ H xs us Q I rx q
/-- the module's own objects are not tracked -/
def KF (K : PySem.W.Frag) (H : Hp) : Prop := (∀ a o, K.lookup a = some o → H a = none) ∧ ∀ a xs, (SqL K H a xs ∨ SqT K H a xs) → xs.length ≤ sizeLine
theorem kf_inv {pins : List (Addr × Obj)} {s : Shared} (I : Inv X pins σ H s) : KF X.K H := ⟨fun a o h => (I.bs a o (I.mod.kin a o h)).2, fun a xs h => by
  rcases h with h | h
  · obtain ⟨_, _, _, z⟩ := I.list h
    exact z
  · obtain ⟨_, _, _, z⟩ := I.tuple h
    exact z⟩
theorem WE.kf {Q : VK} (h : WE X e σ H fun v H' => KF X.K H' → Q v H') : WE X e σ H Q := fun pins s I => wpAny_mono (h pins s I) (fun u s' ⟨v, H', I', r, q⟩ => ⟨v, H', I', r, q (kf_inv I')⟩) fun _ _ x => x
theorem WE.mono {Q Q' : VK} (h : WE X e σ H Q) (m : ∀ v H', Q v H' → Q' v H') : WE X e σ H Q' := fun pins s I => wpAny_mono (h pins s I) (fun u s' ⟨v, H', I', r, q⟩ => ⟨v, H', I', r, m v H' q⟩) fun _ _ x => x
theorem WT.mono {Q Q' : Bool → Hp → Prop} (h : WT X e σ H Q) (m : ∀ v H', Q v H' → Q' v H') : WT X e σ H Q' := fun pins s I => wpAny_mono (h pins s I) (fun u s' ⟨H', I', q⟩ => ⟨H', I', m u H' q⟩) fun _ _ x => x
theorem WO.kf {f : Value → Value → Sem Value} {x y : V} {Q : VK} (h : WO X f x y H fun v H' => KF X.K H' → Q v H') : WO X f x y H Q := fun pins s σ v u I rx ry => wpAny_mono (h pins s σ v u I rx ry) (fun u s' ⟨v, H', I', r, q⟩ => ⟨v, H', I', r, q (kf_inv I')⟩) fun _ _ x => x
theorem WC.kf {f : Value} {xs : List V} {Q : VK} (h : WC X f xs H fun v H' => KF X.K H' → Q v H') : WC X f xs H Q := fun pins s σ us I rx => wpAny_mono (h pins s σ us I rx) (fun u s' ⟨v, H', I', r, q⟩ => ⟨v, H', I', r, q (kf_inv I')⟩) fun _ _ x => x
end
/-! ### new addresses -/
def New (K : PySem.W.Frag) (H : Hp) (b : Addr) : Prop := H b = none ∧ K.lookup b = none
theorem New.back {K : PySem.W.Frag} {H H' : Hp} (e : Same H H') {b : Addr} (h : New K H' b) : New K H b := ⟨e.free h.1, h.2⟩
theorem new_of {K : PySem.W.Frag} {H : Hp} {p : Addr} {o : HO} (kf : KF K (upd H p o)) (n : H p = none) : New K H p := by
  refine ⟨n, ?_⟩
  cases q : K.lookup p with
  | none => rfl
  | some ob =>
    have := kf.1 p ob q
    rw [upd_same] at this; cases this
theorem same_upd {H : Hp} {p : Addr} {o : HO} (h : H p = none) : Same H (upd H p o) := fun b x e => by
  rw [upd_ne (ne_of_none e h)]
  exact e
/-- a shared node is known: tracked, or the module's -/
def Old (K : PySem.W.Frag) (H : Hp) (b : Addr) : Prop := ¬ New K H b
theorem LsA.old {K : PySem.W.Frag} {H : Hp} {t : Ty} {a : Addr} {vs : List V} (h : LsA K H t a vs) : Old K H a := by
  rintro ⟨h1, h2⟩
  rcases h.sq with (h | ⟨o, h⟩) | ⟨o, _, _, h, _⟩
  · rw [h1] at h; cases h
  · rw [h1] at h; cases h
  · rw [h2] at h; cases h
theorem DcA.old {K : PySem.W.Frag} {H : Hp} {t : Ty} {a : Addr} {ks : List D} {vs : List V} (h : DcA H t a ks vs) : Old K H a := by
  rintro ⟨h1, h2⟩
  have z : DcR H a ks vs := by
    cases t with
    | S => exact h
    | F => exact .inl h
    | L t => exact .inl h
  rcases z with (⟨l, h, _⟩ | ⟨l, h, _⟩) | ⟨o, l, h, _⟩ | ⟨o, l, h, _⟩ <;> (rw [h1] at h; cases h)
section
variable {K : PySem.W.Frag} {H : Hp}
mutual
theorem Rw.old : ∀ (d : D) {t : Ty} {v : V} {o s : List Addr}, Rw K H d t v o s → ∀ b, b ∈ o ∨ b ∈ s → Old K H b
  | .none, _, _, _, _, h => by rw [rw_non] at h; rw [h.2.1, h.2.2]; exact fun _ z => by simp at z
  | .bool b, _, _, _, _, h => by rw [rw_bl] at h; rw [h.2.1, h.2.2]; exact fun _ z => by simp at z
  | .int b, _, _, _, _, h => by rw [rw_int] at h; rw [h.2.1, h.2.2]; exact fun _ z => by simp at z
  | .str b, _, _, _, _, h => by rw [rw_str] at h; rw [h.2.1, h.2.2]; exact fun _ z => by simp at z
  | .tuple ds, _, _, _, _, h => by
    rw [rw_tup] at h
    obtain ⟨a, vs, q, h1, h2⟩ := h
    exact RwL.old ds h2
  | .list ds, t, _, _, _, h => by
    rw [rw_lst] at h
    obtain ⟨a, vs, o', s', q, h1, h2, n⟩ := h
    intro b hb
    rcases n.mem.mp hb with rfl | hb
    · exact h1.old
    · exact RwL.old ds h2 b hb
  | .dict kds, t, _, _, _, h => by
    rw [rw_dct] at h
    obtain ⟨a, vs, o', s', q, h1, h2, n⟩ := h
    intro b hb
    rcases n.mem.mp hb with rfl | hb
    · exact h1.old
    · exact RwK.old kds h2 b hb
theorem RwL.old : ∀ (d : List D) {t : Ty} {v : List V} {o s : List Addr}, RwL K H d t v o s → ∀ b, b ∈ o ∨ b ∈ s → Old K H b
  | [], _, _, _, _, h => by rw [rwl_nil] at h; rw [h.2.1, h.2.2]; exact fun _ z => by simp at z
  | d :: ds, _, _, _, _, h => by
    rw [rwl_cons] at h
    obtain ⟨v, vs', o1, s1, o2, s2, e1, rfl, rfl, h1, h2⟩ := h
    intro b hb
    rcases hb with hb | hb <;> rcases List.mem_append.mp hb with hb | hb
    · exact Rw.old d h1 b (.inl hb)
    · exact RwL.old ds h2 b (.inl hb)
    · exact Rw.old d h1 b (.inr hb)
    · exact RwL.old ds h2 b (.inr hb)
theorem RwK.old : ∀ (d : List (D × D)) {t : Ty} {v : List V} {o s : List Addr}, RwK K H d t v o s → ∀ b, b ∈ o ∨ b ∈ s → Old K H b
  | [], _, _, _, _, h => by rw [rwk_nil] at h; rw [h.2.1, h.2.2]; exact fun _ z => by simp at z
  | (_, d) :: ds, _, _, _, _, h => by
    rw [rwk_cons] at h
    obtain ⟨v, vs', o1, s1, o2, s2, e1, rfl, rfl, h1, h2⟩ := h
    intro b hb
    rcases hb with hb | hb <;> rcases List.mem_append.mp hb with hb | hb
    · exact Rw.old d h1 b (.inl hb)
    · exact RwK.old ds h2 b (.inl hb)
    · exact Rw.old d h1 b (.inr hb)
    · exact RwK.old ds h2 b (.inr hb)
end
end
end VS
set_option Elab.async false
set_option linter.all false
set_option maxRecDepth 100000
namespace VS
open PySem PySem.Spec L2
open PyProof.Rows hiding St
/-! ### the trees -/
inductive Tg where
  | one (i : Nat)
  | tup (l : List Nat)
  deriving DecidableEq
inductive BI where
  | len | abs | int | sum | list | tuple | max | min
  deriving DecidableEq
inductive TN where
  | bool | int | str | list | tuple | dict
  deriving DecidableEq
def TN.nm : TN → String
  | .bool => "bool" | .int => "int" | .str => "str" | .list => "list" | .tuple => "tuple" | .dict => "dict"
/-- small things of one argument, of two -/
inductive P1 where
  | srt | srs | lrg | srp
  deriving DecidableEq
inductive P2 where
  | lrg
  deriving DecidableEq
inductive E where
  | sl (i : Nat)
  | k (c : Const)
  | gl (x : Str) (d : D)
  | ari (op : Operator) (a b : E)
  | cat (a b : E)
  | rep (a b : E)
  | neg (a : E)
  | not (a : E)
  | and (a b : E)
  | or (a b : E)
  | one (a : E)
  | cmp (op : CmpOp) (a b : E)
  | chain (o1 o2 : CmpOp) (a b c : E)
  | ife (c a b : E)
  | tup (es : E)
  | lst (es : E)
  | nil
  | cons (a es : E)
  | ix (a i : E)
  | slc (a lo hi : E)
  | nop
  | prt (a : E)
  | call (x : Str) (F : List D → R D) (t : Ty) (es : E)
  | blt (b : BI) (es : E)
  | isi (T : TN) (a : E)
  | comp (own : List (Str × Nat)) (tg : Tg) (it cnd elt : E)
  | rng1 (a : E)
  | rng2 (a b : E)
  | cI (a : E)
  | cL (a : E)
  | pr1 (P : P1) (a : E)
  | pr2 (P : P2) (a b : E)
  | comp2 (own : List (Str × Nat)) (tg : Tg) (it : E) (tg1 : Tg) (it1 elt : E)
/-! ### what they are worth -/
abbrev Sl := List (Option D)
def constD : Const → R D
  | .none => .ok .none
  | .bool b => .ok (.bool b)
  | .int i => .ok (.int i)
  | .str x => .ok (.str x)
  | _ => .no
def slotD (δ : Sl) (i : Nat) : R D := match δ[i]? with
  | some (some d) => .ok d
  | _ => .no
def mulOk (i j : Int) : Prop := i.natAbs < 2 ^ 64 ∨ j.natAbs < 2 ^ 64 ∨ i.natAbs.log2 + j.natAbs.log2 < 1000000
instance (i j : Int) : Decidable (mulOk i j) := by unfold mulOk; infer_instance
def aOp (op : Operator) (i j : Int) : R D := match op with
  | .Add => .ok (.int (i + j))
  | .Sub => .ok (.int (i - j))
  | .Mult => if mulOk i j then .ok (.int (i * j)) else .no
  | .FloorDiv => if 0 < j ∧ j.natAbs.log2 < 9000 then .ok (.int (i / j)) else if j ≠ 0 ∧ j.natAbs < 1073741824 then .ok (.int (i.fdiv j)) else .no
  | .Mod => if 0 < j then .ok (.int (i % j)) else if j ≠ 0 then .ok (.int (i.fmod j)) else .no
  | .Pow => if 0 ≤ j ∧ j ≤ 1000000 ∧ i.natAbs < 2 ^ 64 then .ok (.int (i ^ j.toNat)) else .no
  | .LShift => if 0 ≤ j ∧ j ≤ 1000000 ∧ i.natAbs < 2 ^ 64 then .ok (.int (i * 2 ^ j.toNat)) else .no
  | .RShift => if 0 ≤ j then .ok (.int (i / 2 ^ j.toNat)) else .no
  | _ => .no
def ariD (op : Operator) (a b : D) : R D := match a, b with
  | .int i, .int j => aOp op i j
  | _, _ => .no
def catD (a b : D) : R D := match a, b with
  | .list xs, .list ys => if xs.length + ys.length ≤ sizeLine then .ok (.list (xs ++ ys)) else .no
  | .tuple xs, .tuple ys => if xs ≠ [] ∧ xs.length + ys.length ≤ sizeLine then .ok (.tuple (xs ++ ys)) else .no
  | .str x, .str y => if x.length + y.length ≤ sizeLine then .ok (.str (x ++ y)) else .no
  | _, _ => .no
def repD (a b : D) : R D := match a, b with
  | .list xs, .int k => if -(2 ^ 63) ≤ k ∧ k < 2 ^ 63 ∧ xs.length * k.toNat ≤ sizeLine then .ok (.list (List.replicate k.toNat xs).flatten) else .no
  | _, _ => .no
def negD : D → R D
  | .int i => .ok (.int (-i))
  | _ => .no
def boolD : D → R Bool
  | .bool b => .ok b
  | _ => .no
def eqD (a b : D) : R Bool := if SeqAt.shaped a = true ∧ SeqAt.shaped b = true then .ok (PyData.eqv a b) else .no
def inD (a b : D) : R Bool := match b with
  | .list ds => if SeqAt.shaped a = true ∧ SeqAt.shaped (.list ds) = true then .ok (ds.any fun z => PyData.eqv z a) else .no
  | _ => .no
def ltD (a b : D) : R Bool := match a, b with
  | .int i, .int j => .ok (decide (i < j))
  | _, _ => .no
def leD (a b : D) : R Bool := match a, b with
  | .int i, .int j => .ok (decide (i ≤ j))
  | _, _ => .no
def isNonD : D → Bool
  | .none => true
  | _ => false
def isN (a b : D) : R Bool := match b with
  | .none => .ok (isNonD a)
  | .bool c => match a with
    | .bool d => .ok (decide (d = c))
    | _ => .no
  | _ => .no
def notR (r : R Bool) : R Bool := r >>= fun b => .ok (!b)
def cmpD (op : CmpOp) (a b : D) : R Bool := match op with
  | .Eq => eqD a b
  | .NotEq => notR (eqD a b)
  | .Lt => ltD a b
  | .LtE => leD a b
  | .Gt => ltD b a
  | .GtE => leD b a
  | .Is => isN a b
  | .IsNot => notR (isN a b)
  | .In => inD a b
  | .NotIn => notR (inD a b)
def ixD (a i : D) : R D := match a, i with
  | .list xs, .int k => match atI xs k with
    | some d => .ok d
    | none => .no
  | .tuple xs, .int k => match atI xs k with
    | some d => .ok d
    | none => .no
  | .str z, .int k => if z.length ≤ sizeLine then (match atI z.cps.toList k with
    | some c => .ok (.str ⟨#[c]⟩)
    | none => .no) else .no
  | _, _ => .no
def cutD {α : Type} (xs : List α) (lo hi : Option Int) : List α := (xs.drop (HT.sIx xs.length 0 lo)).take (HT.sIx xs.length xs.length hi - HT.sIx xs.length 0 lo)
def slcD (a : D) (lo hi : Option Int) : R D := match a with
  | .list xs => .ok (.list (cutD xs lo hi))
  | _ => .no
def intD : D → R Int
  | .int i => .ok i
  | _ => .no
def intsD : List D → R (List Int)
  | [] => .ok []
  | .int i :: ds => intsD ds >>= fun l => .ok (i :: l)
  | _ :: _ => .no
def blt1 (b : BI) (d : D) : R D := match b with
  | .len => match d with
    | .list xs => .ok (.int xs.length)
    | .tuple xs => .ok (.int xs.length)
    | .str z => if z.length ≤ sizeLine then .ok (.int z.length) else .no
    | _ => .no
  | .abs => match d with
    | .int i => .ok (.int (if i < 0 then -i else i))
    | _ => .no
  | .int => match d with
    | .int i => .ok (.int i)
    | .bool b => .ok (.int (if b then 1 else 0))
    | _ => .no
  | .sum => match d with
    | .list xs => intsD xs >>= fun l => .ok (.int l.sum)
    | _ => .no
  | .list => match d with
    | .list xs => .ok (.list xs)
    | .tuple xs => .ok (.list xs)
    | _ => .no
  | .tuple => match d with
    | .list xs => .ok (.tuple xs)
    | .tuple xs => .ok (.tuple xs)
    | _ => .no
  | _ => .no
def blt2 (b : BI) (d e : D) : R D := match b with
  | .max => match d, e with
    | .int i, .int j => .ok (.int (if j > i then j else i))
    | _, _ => .no
  | .min => match d, e with
    | .int i, .int j => .ok (.int (if j < i then j else i))
    | _, _ => .no
  | _ => .no
def bltD (b : BI) (ds : List D) : R D := match ds with
  | [d] => blt1 b d
  | [d, e] => blt2 b d e
  | _ => .no
def isiB : TN → D → Bool
  | _, .none => false
  | .bool, .bool _ => true
  | .int, .bool _ => true
  | .int, .int _ => true
  | .str, .str _ => true
  | .list, .list _ => true
  | .tuple, .tuple _ => true
  | _, _ => false
def isiD (T : TN) (d : D) : R D := match d with
  | .dict _ => .no
  | d => .ok (.bool (isiB T d))
def iterD : D → R (List D)
  | .list ds => .ok ds
  | .tuple ds => .ok ds
  | _ => .no
def setTgs : List Nat → List D → Sl → R Sl
  | [], [], δ => .ok δ
  | i :: is, d :: ds, δ => setTgs is ds (δ.set i (some d))
  | _, _, _ => .no
def setTg : Tg → D → Sl → R Sl
  | .one i, d, δ => .ok (δ.set i (some d))
  | .tup is, .tuple ds, δ => setTgs is ds δ
  | .tup _, _, _ => .no
def wipeD (δ : Sl) : List Nat → Sl
  | [] => δ
  | v :: vs => (wipeD δ vs).set v none
def nox {α : Type} : R α → R α
  | .ok a => .ok a
  | _ => .no
def compL (f : D → R (Option D)) : List D → R (List D)
  | [] => .ok []
  | x :: xs => f x >>= fun o => compL f xs >>= fun ys => .ok (o.toList ++ ys)
def rngD (lo hi : Int) : R D := if -(2 ^ 62) ≤ lo ∧ lo < 2 ^ 62 ∧ -(2 ^ 62) ≤ hi ∧ hi < 2 ^ 62 ∧ (hi - lo).toNat ≤ sizeLine then .ok (.list ((List.range (hi - lo).toNat).map fun (i : Nat) => .int (lo + (i : Int)))) else .no
def tgL : Tg → List Nat
  | .one i => [i]
  | .tup is => is
def flatL (f : D → R (List D)) : List D → R (List D)
  | [] => .ok []
  | x :: xs => f x >>= fun ys => flatL f xs >>= fun zs => .ok (ys ++ zs)
def mapL (f : D → R D) : List D → R (List D)
  | [] => .ok []
  | x :: xs => f x >>= fun y => mapL f xs >>= fun ys => .ok (y :: ys)
def insI (x : Int) : List Int → List Int
  | [] => [x]
  | y :: l => if x ≤ y then x :: y :: l else y :: insI x l
def srtI : List Int → List Int
  | [] => []
  | x :: l => insI x (srtI l)
def insU (x : Int) : List Int → List Int
  | [] => [x]
  | y :: l => if x < y then x :: y :: l else if x = y then y :: l else y :: insU x l
def srtU : List Int → List Int
  | [] => []
  | x :: l => insU x (srtU l)
/-- pairs in order -/
def lexI (p q : Int × Int) : Bool := decide (p.1 < q.1 ∨ (p.1 = q.1 ∧ p.2 ≤ q.2))
def insP (x : Int × Int) : List (Int × Int) → List (Int × Int)
  | [] => [x]
  | y :: l => if lexI x y = true then x :: y :: l else y :: insP x l
def srtP : List (Int × Int) → List (Int × Int)
  | [] => []
  | x :: l => insP x (srtP l)
def pairP (p : Int × Int) : D := .tuple [.int p.1, .int p.2]
def pairsD : List D → R (List (Int × Int))
  | [] => .ok []
  | .tuple [.int i, .int j] :: ds => pairsD ds >>= fun l => .ok ((i, j) :: l)
  | _ :: _ => .no
def lrgD (lo hi : Int) : R D := if (hi - lo).toNat ≤ 1000000 then rngD lo hi else .no
def p1D (P : P1) (d : D) : R D := match P with
  | .srt => match d with
    | .list ds => intsD ds >>= fun l => .ok (.list ((srtI l).map fun i => .int i))
    | _ => .no
  | .srs => match d with
    | .list ds => intsD ds >>= fun l => if l.length < 4000 ∧ (srtU l).length < 64 then .ok (.list ((srtU l).map fun i => .int i)) else .no
    | _ => .no
  | .lrg => match d with
    | .int n => lrgD 0 n
    | _ => .no
  | .srp => match d with
    | .list ds => pairsD ds >>= fun l => .ok (.list ((srtP l).map pairP))
    | _ => .no
def p2D (P : P2) (d e : D) : R D := match P with
  | .lrg => match d, e with
    | .int m, .int n => lrgD m n
    | _, _ => .no
mutual
def ev : E → Sl → R D
  | .sl i, δ => slotD δ i
  | .k c, _ => constD c
  | .gl _ d, _ => .ok d
  | .ari op a b, δ => ev a δ >>= fun x => ev b δ >>= fun y => ariD op x y
  | .cat a b, δ => ev a δ >>= fun x => ev b δ >>= fun y => catD x y
  | .rep a b, δ => ev a δ >>= fun x => ev b δ >>= fun y => repD x y
  | .neg a, δ => ev a δ >>= negD
  | .not a, δ => ev a δ >>= boolD >>= fun b => .ok (.bool (!b))
  | .and a b, δ => ev a δ >>= boolD >>= fun c => match c with
    | true => ev b δ >>= boolD >>= fun c => .ok (.bool c)
    | false => .ok (.bool false)
  | .or a b, δ => ev a δ >>= boolD >>= fun c => match c with
    | true => .ok (.bool true)
    | false => ev b δ >>= boolD >>= fun c => .ok (.bool c)
  | .one a, δ => ev a δ >>= boolD >>= fun c => .ok (.bool c)
  | .cmp op a b, δ => ev a δ >>= fun x => ev b δ >>= fun y => cmpD op x y >>= fun c => .ok (.bool c)
  | .chain o1 o2 a b c, δ => ev a δ >>= fun x => ev b δ >>= fun y => cmpD o1 x y >>= fun r => match r with
    | true => ev c δ >>= fun z => cmpD o2 y z >>= fun r => .ok (.bool r)
    | false => .ok (.bool false)
  | .ife c a b, δ => ev c δ >>= boolD >>= fun r => match r with
    | true => ev a δ
    | false => ev b δ
  | .tup es, δ => evl es δ >>= fun ds => if ds.length ≤ sizeLine then .ok (.tuple ds) else .no
  | .lst es, δ => evl es δ >>= fun ds => if ds.length ≤ sizeLine then .ok (.list ds) else .no
  | .nil, _ => .no
  | .cons _ _, _ => .no
  | .ix a i, δ => ev a δ >>= fun x => ev i δ >>= fun y => ixD x y
  | .slc a lo hi, δ => ev a δ >>= fun x => evo lo δ >>= fun l => evo hi δ >>= fun h => slcD x l h
  | .nop, _ => .no
  | .prt _, _ => .no
  | .call _ F _ es, δ => evl es δ >>= F
  | .blt b es, δ => evl es δ >>= bltD b
  | .isi T a, δ => ev a δ >>= isiD T
  | .comp own tg it cnd elt, δ => ev it δ >>= iterD >>= fun xs =>
      nox (compL (fun x => setTg tg x (wipeD δ (own.map (·.2))) >>= fun δ' => evc cnd δ' >>= fun c => match c with
        | true => ev elt δ' >>= fun y => .ok (some y)
        | false => .ok none) xs) >>= fun ys => .ok (.list ys)
  | .rng1 a, δ => ev a δ >>= intD >>= fun j => rngD 0 j
  | .rng2 a b, δ => ev a δ >>= intD >>= fun i => ev b δ >>= intD >>= fun j => rngD i j
  | .cI a, δ => ev a δ >>= fun d => if imm d = true then .ok d else .no
  | .cL a, δ => ev a δ >>= fun d => match d with
    | .list ds => if immL ds = true then .ok (.list ds) else .no
    | _ => .no
  | .pr1 P a, δ => ev a δ >>= p1D P
  | .pr2 P a b, δ => ev a δ >>= fun x => ev b δ >>= fun y => p2D P x y
  | .comp2 own tg it tg1 it1 elt, δ => ev it δ >>= iterD >>= fun xs =>
      nox (flatL (fun x => setTg tg x (wipeD δ (own.map (·.2))) >>= fun δ1 => ev it1 δ1 >>= iterD >>= fun zs =>
        mapL (fun z => setTg tg1 z (wipeD δ1 (tgL tg1)) >>= fun δ2 => ev elt δ2 >>= fun y => if imm y = true then .ok y else .no) zs) xs) >>= fun ys => if ys.length ≤ sizeLine then .ok (.list ys) else .no
/-- an argument list -/
def evl : E → Sl → R (List D)
  | .nil, _ => .ok []
  | .cons a es, δ => ev a δ >>= fun d => evl es δ >>= fun ds => .ok (d :: ds)
  | _, _ => .no
/-- a part of a slice -/
def evo : E → Sl → R (Option Int)
  | .nop, _ => .ok none
  | .prt a, δ => ev a δ >>= intD >>= fun j => .ok (some j)
  | _, _ => .no
/-- a comprehension's test -/
def evc : E → Sl → R Bool
  | .nop, _ => .ok true
  | .prt a, δ => ev a δ >>= boolD
  | _, _ => .no
end
/-! ### a tree is the text's -/
structure Scp where
  N : List Str
  sc : Scope
  cel : Str → Bool
def visC (S : Scp) (i : Nat) (x : Str) : Bool := decide (S.N[i]? = some x) && (match S.sc.names.lookup x with
  | some .local => true
  | some .cell => true
  | some .free => true
  | _ => false) && !(x == ("__debug__" : Str)) && !(x == ("__classdict__" : Str))
def plainX : Expr → Bool
  | .Slice .. => false
  | .Starred .. => false
  | .Set .. => false
  | _ => true
def glC (S : Scp) (x : Str) : Bool := decide (S.sc.names.lookup x = some .globalImplicit) && !(x == ("__debug__" : Str))
def bltC (S : Scp) (nb : List Str) (x : Str) : Bool := glC S x && decide (x ∈ nb) && decide (x ≠ ("__name__" : Str))
def stoC (S : Scp) (i : Nat) (x : Str) : Bool := decide (S.N[i]? = some x) && (match S.sc.names.lookup x with
  | some .local => true
  | some .cell => S.cel x
  | _ => false)
def tgsC (S : Scp) : List Nat → List Expr → Bool
  | [], [] => true
  | i :: is, .Name x _ :: es => stoC S i x && tgsC S is es
  | _, _ => false
def tgC (S : Scp) : Tg → Expr → Bool
  | .one i, .Name x _ => stoC S i x
  | .tup is, .Tuple es _ _ => tgsC S is es
  | _, _ => false
def tgIn (vs : List Nat) : Tg → Bool
  | .one i => decide (i ∈ vs)
  | .tup is => is.all fun i => decide (i ∈ vs)
def BI.nm : BI → String
  | .len => "len" | .abs => "abs" | .int => "int" | .sum => "sum" | .list => "list" | .tuple => "tuple" | .max => "max" | .min => "min"
def Scp.blk (S : Scp) (scope : Scope) : Scp := ⟨S.N, relS scope S.sc, fun x => scope.names.lookup x == some .cell⟩
def isAnd : E → Bool
  | .and _ _ => true
  | .one _ => true
  | _ => false
def isOr : E → Bool
  | .or _ _ => true
  | .one _ => true
  | _ => false
/-- the argument of a small thing in the text -/
def p1A (nb : List Str) (S : Scp) : P1 → Expr → Option Expr
  | .srt, .Call (.Name y _) [pa] [] _ => if decide (y = ("sorted" : Str)) && bltC S nb y && plainX pa then some pa else none
  | .srs, .Call (.Name y _) [.Call (.Name z _) [pa] [] _] [] _ => if decide (y = ("sorted" : Str)) && bltC S nb y && decide (z = ("set" : Str)) && bltC S nb z && plainX pa then some pa else none
  | .lrg, .Call (.Name y _) [.Call (.Name z _) [pa] [] _] [] _ => if decide (y = ("list" : Str)) && bltC S nb y && decide (z = ("range" : Str)) && bltC S nb z && plainX pa then some pa else none
  | .srp, .Call (.Name y _) [pa] [] _ => if decide (y = ("sorted" : Str)) && bltC S nb y && plainX pa then some pa else none
  | _, _ => none
structure C2 where
  pe : Expr
  ptg : Expr
  pit : Expr
  ptg1 : Expr
  pit1 : Expr
  scope : Scope
def c2A : Expr → Option C2
  | .ListComp pe [⟨ptg, pit, [], 0⟩, ⟨ptg1, pit1, [], 0⟩] scope _ => some ⟨pe, ptg, pit, ptg1, pit1, scope⟩
  | _ => none
def p2A (nb : List Str) (S : Scp) : P2 → Expr → Option (Expr × Expr)
  | .lrg, .Call (.Name y _) [.Call (.Name z _) [pa, pb] [] _] [] _ => if decide (y = ("list" : Str)) && bltC S nb y && decide (z = ("range" : Str)) && bltC S nb z && plainX pa && plainX pb then some (pa, pb) else none
  | _, _ => none
mutual
def ck (nb : List Str) : E → Scp → Bool → Expr → Bool
  | .sl i, S, _, .Name x _ => visC S i x
  | .k c, _, _, .Constant c' _ _ => decide (c = c')
  | .gl x _, S, _, .Name y _ => decide (x = y) && glC S x
  | .ari op a b, S, _, .BinOp pa op' pb _ => decide (op = op') && ck nb a S false pa && ck nb b S false pb
  | .cat a b, S, _, .BinOp pa op' pb _ => decide (.Add = op') && ck nb a S false pa && ck nb b S false pb
  | .rep a b, S, _, .BinOp pa op' pb _ => decide (.Mult = op') && ck nb a S false pa && ck nb b S false pb
  | .neg a, S, _, .UnaryOp op pa _ => decide (op = .USub) && ck nb a S false pa
  | .not a, S, _, .UnaryOp op pa _ => decide (op = .Not) && ck nb a S false pa
  | .and a b, S, _, .BoolOp op (pa :: pb :: r) p => decide (op = .And) && ck nb a S false pa && ck nb b S false (.BoolOp .And (pb :: r) p) && isAnd b
  | .or a b, S, _, .BoolOp op (pa :: pb :: r) p => decide (op = .Or) && ck nb a S false pa && ck nb b S false (.BoolOp .Or (pb :: r) p) && isOr b
  | .one a, S, _, .BoolOp _ [pa] _ => ck nb a S false pa
  | .cmp op a b, S, _, .Compare pa [op'] [pb] _ => decide (op = op') && plainX pb && ck nb a S false pa && ck nb b S false pb
  | .chain o1 o2 a b c, S, _, .Compare pa [o1', o2'] [pb, pc] _ => decide (o1 = o1') && plainX pb && plainX pc && decide (o2 = o2') && ck nb a S false pa && ck nb b S false pb && ck nb c S false pc
  | .ife c a b, S, _, .IfExp pc pa pb _ => ck nb c S false pc && ck nb a S false pa && ck nb b S false pb
  | .tup es, S, _, .Tuple ps _ _ => cks nb es S ps
  | .lst es, S, _, .List ps _ => cks nb es S ps
  | .ix a i, S, _, .Subscript pa pi _ => plainX pi && ck nb a S false pa && ck nb i S false pi
  | .slc a lo hi, S, _, .Subscript pa (.Slice pl ph none _) _ => ck nb a S false pa && cko nb lo S pl && cko nb hi S ph
  | .call x _ _ es, S, _, .Call (.Name y _) ps [] _ => decide (x = y) && glC S x && cks nb es S ps
  | .blt b es, S, _, .Call (.Name y _) (p :: ps) [] _ => decide ((b.nm : Str) = y) && bltC S nb y && cks nb es S (p :: ps)
  | .isi T a, S, _, .Call (.Name y _) [pa, .Name z _] [] _ => decide (y = ("isinstance" : Str)) && bltC S nb y && decide (z = (T.nm : Str)) && plainX pa && bltC S nb z && ck nb a S false pa
  | .comp own tg it cnd elt, S, _, .ListComp pe [⟨ptg, pit, pifs, 0⟩] scope _ =>
    blkC S.N S.sc scope own && plainX pit && ck nb it S true pit && tgC (S.blk scope) tg ptg && tgIn (own.map (·.2)) tg && ckc nb cnd (S.blk scope) pifs && ck nb elt (S.blk scope) false pe
  | .rng1 a, S, true, .Call (.Name y _) [pa] [] _ => decide (y = ("range" : Str)) && bltC S nb y && plainX pa && ck nb a S false pa
  | .rng2 a b, S, true, .Call (.Name y _) [pa, pb] [] _ => decide (y = ("range" : Str)) && bltC S nb y && plainX pa && plainX pb && ck nb a S false pa && ck nb b S false pb
  | .cI a, S, _, p => ck nb a S false p
  | .cL a, S, _, p => ck nb a S false p
  | .comp2 own tg it tg1 it1 elt, S, _, p => match c2A p with
    | some ⟨pe, ptg, pit, ptg1, pit1, scope⟩ => blkC S.N S.sc scope own && plainX pit && plainX pit1 && ck nb it S true pit && tgC (S.blk scope) tg ptg && tgIn (own.map (·.2)) tg && ck nb it1 (S.blk scope) true pit1 && tgC (S.blk scope) tg1 ptg1 && tgIn (own.map (·.2)) tg1 && ck nb elt (S.blk scope) false pe
    | none => false
  | .pr1 P a, S, _, p => match p1A nb S P p with
    | some pa => ck nb a S false pa
    | none => false
  | .pr2 P a b, S, _, p => match p2A nb S P p with
    | some (pa, pb) => ck nb a S false pa && ck nb b S false pb
    | none => false
  | _, _, _, _ => false
def cks (nb : List Str) : E → Scp → List Expr → Bool
  | .nil, _, [] => true
  | .cons a es, S, p :: ps => plainX p && ck nb a S false p && cks nb es S ps
  | _, _, _ => false
def cko (nb : List Str) : E → Scp → Option Expr → Bool
  | .nop, _, none => true
  | .prt a, S, some p => ck nb a S false p
  | _, _, _ => false
def ckc (nb : List Str) : E → Scp → List Expr → Bool
  | .nop, _, [] => true
  | .prt a, S, [p] => ck nb a S false p
  | _, _, _ => false
end
/-! ### who owns what it makes -/
structure Tv where
  t : Ty
  B : List Nat
  a : Bool
def Tv.nm (T : Tv) : Ty := if T.B = [] then T.t else .S
def Tv.fr : Tv := ⟨.F, [], false⟩
def Tv.both (T U : Tv) : Tv := ⟨Ty.join T.nm U.nm, T.B ++ U.B, T.a || U.a⟩
abbrev Tys := List (Option (Ty × Bool))
def setTy : Tg → Option (Ty × Bool) → Tys → Tys
  | .one i, t, τ => τ.set i t
  | .tup is, t, τ => is.foldl (fun τ i => τ.set i t) τ
def wipeT (τ : Tys) : List Nat → Tys
  | [] => τ
  | v :: vs => (wipeT τ vs).set v none
def bltT (b : BI) (T : Tv) : Tv := match b with
  | .list => if T.nm = .F then .fr else ⟨.L .S, T.B, T.a⟩
  | .tuple => if T.nm = .F then .fr else ⟨.S, T.B, T.a⟩
  | _ => .fr
def catT (T U : Tv) : Tv := if T.nm = .F ∧ U.nm = .F then .fr else ⟨.L (Ty.join T.nm.el U.nm.el), T.B ++ U.B, T.a || U.a⟩
def compT (T U : Tv) : Tv := if U.nm = .F then .fr else ⟨.L .S, U.B ++ T.B, U.a⟩
mutual
def ty : E → Tys → Option Tv
  | .sl i, τ => match τ[i]? with
    | some (some (t, a)) => some ⟨.S, if t = .S then [] else [i], a⟩
    | _ => none
  | .k _, _ => some .fr
  | .gl _ d, _ => if imm d = true then some .fr else none
  | .ari _ a b, τ => (ty a τ).bind fun _ => (ty b τ).bind fun _ => some .fr
  | .cat a b, τ => (ty a τ).bind fun T => (ty b τ).bind fun U => some (catT T U)
  | .rep a b, τ => (ty a τ).bind fun T => (ty b τ).bind fun _ => if T.t = .S then none else some ⟨.L .S, T.B, T.a⟩
  | .neg a, τ => (ty a τ).bind fun _ => some .fr
  | .not a, τ => (ty a τ).bind fun _ => some .fr
  | .and a b, τ => (ty a τ).bind fun _ => (ty b τ).bind fun _ => some .fr
  | .or a b, τ => (ty a τ).bind fun _ => (ty b τ).bind fun _ => some .fr
  | .one a, τ => (ty a τ).bind fun _ => some .fr
  | .cmp _ a b, τ => (ty a τ).bind fun _ => (ty b τ).bind fun _ => some .fr
  | .chain _ _ a b c, τ => (ty a τ).bind fun _ => (ty b τ).bind fun _ => (ty c τ).bind fun _ => some .fr
  | .ife c a b, τ => (ty c τ).bind fun _ => (ty a τ).bind fun T => (ty b τ).bind fun U => some (T.both U)
  | .tup es, τ => (tys es τ).bind fun T => some (if T.nm = .F then .fr else ⟨.S, T.B, T.a⟩)
  | .lst es, τ => (tys es τ).bind fun T => some (if T.nm = .F then .fr else ⟨.L T.nm, T.B, T.a⟩)
  | .ix a i, τ => (ty a τ).bind fun T => (ty i τ).bind fun _ => some (if T.nm = .F then .fr else ⟨.S, T.B, T.a⟩)
  | .slc a lo hi, τ => (ty a τ).bind fun T => (tyo lo τ).bind fun _ => (tyo hi τ).bind fun _ => some (if T.nm = .F then .fr else ⟨.L T.nm.el, T.B, T.a⟩)
  | .call _ _ t es, τ => (tys es τ).bind fun T => some (if t = .F then .fr else ⟨t, T.B, T.a⟩)
  | .blt b es, τ => (tys es τ).bind fun T => some (bltT b T)
  | .isi _ a, τ => (ty a τ).bind fun _ => some .fr
  | .comp own tg it cnd elt, τ => (ty it τ).bind fun T => (tyc cnd (setTy tg (some (.S, T.a)) (wipeT τ (own.map (·.2))))).bind fun _ =>
      (ty elt (setTy tg (some (.S, T.a)) (wipeT τ (own.map (·.2))))).bind fun U => some (compT T U)
  | .rng1 a, τ => (ty a τ).bind fun _ => some .fr
  | .rng2 a b, τ => (ty a τ).bind fun _ => (ty b τ).bind fun _ => some .fr
  | .cI a, τ => (ty a τ).bind fun _ => some .fr
  | .cL a, τ => (ty a τ).bind fun T => match T.t with
    | .S => none
    | _ => some .fr
  | .pr1 _ a, τ => (ty a τ).bind fun _ => some .fr
  | .comp2 own tg it tg1 it1 elt, τ => (ty it τ).bind fun T => (ty it1 (setTy tg (some (.S, T.a)) (wipeT τ (own.map (·.2))))).bind fun T1 =>
      (ty elt (setTy tg1 (some (.S, T1.a)) (wipeT (setTy tg (some (.S, T.a)) (wipeT τ (own.map (·.2)))) (tgL tg1)))).bind fun _ => some .fr
  | .pr2 _ a b, τ => (ty a τ).bind fun _ => (ty b τ).bind fun _ => some .fr
  | _, _ => none
def tys : E → Tys → Option Tv
  | .nil, _ => some .fr
  | .cons a es, τ => (ty a τ).bind fun T => (tys es τ).bind fun U => some (T.both U)
  | _, _ => none
def tyo : E → Tys → Option Unit
  | .nop, _ => some ()
  | .prt a, τ => (ty a τ).bind fun _ => some ()
  | _, _ => none
def tyc : E → Tys → Option Unit
  | .nop, _ => some ()
  | .prt a, τ => (ty a τ).bind fun _ => some ()
  | _, _ => none
end
end VS
set_option Elab.async false
set_option linter.all false
set_option maxRecDepth 100000
namespace VS
open PySem PySem.Spec L2
open PyProof.Rows hiding St
/-! ### the setting of a program -/
structure Ctx where
  P : Program
  w : World
  K : PySem.W.Frag
  mg : Str → Option Value
  base : Heap
  k : Nat
  nb : List Str
  hnb : ∀ x ∈ nb, mg x = none
structure Gd (C : Ctx) (S : Scp) (X : Cx) : Prop where
  P : X.prog = C.P
  w : X.w = C.w
  K : X.K = C.K
  mg : X.mg = C.mg
  base : X.base = C.base
  calm : X.calm = true
  room : Room C.k X.A
  N : X.N = S.N
  sc : X.env.scope = S.sc
  nd : S.N.Nodup
  cel : ∀ x, S.cel x = true → X.fn x = true
/-- an exception as data -/
def ExR (K : PySem.W.Frag) (mg : Str → Option Value) (H : Hp) (x : Ex) (cls : Value) (dx : Option Addr) : Prop :=
  ∃ C, cls = .ref C ∧ mg x.cls = some (.ref C) ∧ (x.fs = [] ∨ ∃ d fv, dx = some d ∧ H d = some (.xd fv) ∧ fv.map (·.1) = x.fs.map (·.1) ∧ RwL K H (x.fs.map (·.2)) .S (fv.map (·.2)) [] [])
def XW (X : Cx) (σ : St) (H : Hp) (x : Ex) : Prop := ∃ W : WX, Takes X W ∧ ∀ H' cls dx, Same H H' → KF X.K H' → ExR X.K X.mg H' x cls dx → W cls dx σ H'
theorem XW.mono {X : Cx} {σ : St} {H H1 : Hp} {x : Ex} (e : Same H H1) (h : XW X σ H x) : XW X σ H1 x := by
  obtain ⟨W, t, h⟩ := h
  exact ⟨W, t, fun H' cls dx s => h H' cls dx (e.trans s)⟩
def FinG {α : Type} (X : Cx) (σ : St) (H : Hp) (r : R α) (k : α → Hp → Prop) : Prop := match r with
  | .ok a => ∀ H', Same H H' → KF X.K H' → k a H'
  | .ex x => XW X σ H x
  | .no => False
section
variable {α β : Type} {X : Cx} {σ : St} {H H1 : Hp}
theorem FinG.grow {r : R α} {k : α → Hp → Prop} (e : Same H H1) (h : FinG X σ H r k) : FinG X σ H1 r k := by
  cases r with
  | ok a => exact fun H' s => h H' (e.trans s)
  | ex x => exact XW.mono e h
  | no => exact h
theorem FinG.bind {r : R α} {f : α → R β} {k : β → Hp → Prop} (h : FinG X σ H (r >>= f) k) : FinG X σ H r (fun a H1 => FinG X σ H1 (f a) k) := by
  cases r with
  | ok a => exact fun H1 e _ => FinG.grow (r := f a) e h
  | ex x => exact h
  | no => exact h
theorem FinG.imp {r : R α} {k k' : α → Hp → Prop} (h : FinG X σ H r k) (m : ∀ a H', Same H H' → KF X.K H' → k a H' → k' a H') : FinG X σ H r k' := by
  cases r with
  | ok a => exact fun H' e kf => m a H' e kf (h H' e kf)
  | ex x => exact h
  | no => exact h
theorem R.assoc {α β γ : Type} (x : R α) (f : α → R β) (g : β → R γ) : ((x >>= f) >>= g) = (x >>= fun a => f a >>= g) := by cases x <;> rfl
theorem FinG.ok {a : α} {k : α → Hp → Prop} (h : FinG X σ H (.ok a) k) (kf : KF X.K H) : k a H := h H (Same.refl H) kf
theorem FinG.ite {c : Prop} [Decidable c] {a : α} {k : α → Hp → Prop} (h : FinG X σ H (if c then .ok a else .no) k) : c ∧ FinG X σ H (.ok a) k := by
  by_cases hc : c
  · rw [if_pos hc] at h; exact ⟨hc, h⟩
  · rw [if_neg hc] at h; exact h.elim
end
/-! ### the slots -/
structure SV (K : PySem.W.Frag) (H₀ H : Hp) (τ : Tys) (δ : Sl) (σ : St) (nd : List (List Addr × List Addr)) : Prop where
  kf : KF K H
  sm : Same H₀ H
  ls : σ.length = δ.length
  ln : nd.length = δ.length
  rep : ∀ (i : Nat) (d : D) (t : Ty) (a : Bool), δ[i]? = some (some d) → τ[i]? = some (some (t, a)) → ∃ v o s, σ[i]? = some (some v) ∧ nd[i]? = some (o, s) ∧ Rw K H d t v o s ∧ (a = false → ∀ b ∈ s, New K H₀ b)
  old : ∀ (i : Nat) (p : List Addr × List Addr), nd[i]? = some p → ∀ b, b ∈ p.1 ∨ b ∈ p.2 → Old K H b
  own : ∀ (i : Nat) (p : List Addr × List Addr), nd[i]? = some p → ∀ b ∈ p.1, New K H₀ b ∧ MutAt H b
theorem SV.grow {K : PySem.W.Frag} {H₀ H H1 : Hp} {τ : Tys} {δ : Sl} {σ : St} {nd : List (List Addr × List Addr)} (e : Same H H1) (kf : KF K H1) (h : SV K H₀ H τ δ σ nd) : SV K H₀ H1 τ δ σ nd where
  kf := kf
  sm := h.sm.trans e
  ls := h.ls
  ln := h.ln
  rep := fun i d t a h1 h2 => by
    obtain ⟨v, o, s, h3, h4, h5, h6⟩ := h.rep i d t a h1 h2
    exact ⟨v, o, s, h3, h4, Rw.same e d h5, h6⟩
  old := fun i p h1 b hb n => h.old i p h1 b hb (n.back e)
  own := fun i p h1 b hb => by
    obtain ⟨n, u, hu, m⟩ := h.own i p h1 b hb
    exact ⟨n, u, e _ _ hu, m⟩
/-- an expression's value -/
def Vl (K : PySem.W.Frag) (H₀ H H' : Hp) (nd : List (List Addr × List Addr)) (T : Tv) (d : D) (v : V) : Prop :=
  ∃ o s, Rw K H' d T.t v o s ∧ o.Nodup ∧ (∀ b ∈ o, New K H b ∧ b ∉ s) ∧
    (∀ b ∈ s, New K H b ∨ ∃ i p, nd[i]? = some p ∧ (b ∈ p.2 ∨ (i ∈ T.B ∧ b ∈ p.1))) ∧ (T.a = false → ∀ b ∈ s, New K H₀ b)
def VlL (K : PySem.W.Frag) (H₀ H H' : Hp) (nd : List (List Addr × List Addr)) (T : Tv) (d : List D) (v : List V) : Prop :=
  ∃ o s, RwL K H' d T.nm v o s ∧ o.Nodup ∧ (∀ b ∈ o, New K H b ∧ b ∉ s) ∧
    (∀ b ∈ s, New K H b ∨ ∃ i p, nd[i]? = some p ∧ (b ∈ p.2 ∨ (i ∈ T.B ∧ b ∈ p.1))) ∧ (T.a = false → ∀ b ∈ s, New K H₀ b)
section
variable {K : PySem.W.Frag} {H₀ H H' H1 : Hp} {nd : List (List Addr × List Addr)} {T : Tv} {d : D} {v : V}
/-- a value without nodes -/
theorem Vl.imm {t : Ty} {o s : List Addr} (h : Rw K H' d t v o s) (i : imm d = true) : Vl K H₀ H H' nd T d v := by
  obtain ⟨_, _, h3⟩ := Rw.imm d i h
  exact ⟨[], [], h3 _, List.nodup_nil, by simp, by simp, by simp⟩
theorem Vl.int (i : Int) : Vl K H₀ H H' nd T (.int i) (.int i) := Vl.imm (t := .S) (rw_int.mpr ⟨rfl, rfl, rfl⟩) rfl
theorem Vl.bl (i : Bool) : Vl K H₀ H H' nd T (.bool i) (.bl i) := Vl.imm (t := .S) (rw_bl.mpr ⟨rfl, rfl, rfl⟩) rfl
theorem Vl.str (i : Str) : Vl K H₀ H H' nd T (.str i) (.str i) := Vl.imm (t := .S) (rw_str.mpr ⟨rfl, rfl, rfl⟩) rfl
theorem Vl.non : Vl K H₀ H H' nd T .none .non := Vl.imm (t := .S) (rw_non.mpr ⟨rfl, rfl, rfl⟩) rfl
theorem Vl.rw (h : Vl K H₀ H H' nd T d v) : ∃ t o s, Rw K H' d t v o s := by
  obtain ⟨o, s, h, _⟩ := h
  exact ⟨_, o, s, h⟩
theorem Vl.to (e : Same H' H1) (h : Vl K H₀ H H' nd T d v) : Vl K H₀ H H1 nd T d v := by
  obtain ⟨o, s, h, r⟩ := h
  exact ⟨o, s, Rw.same e d h, r⟩
theorem Vl.from {Hb : Hp} (e : Same Hb H) (h : Vl K H₀ H H' nd T d v) : Vl K H₀ Hb H' nd T d v := by
  obtain ⟨o, s, h, n, ho, hs, ha⟩ := h
  exact ⟨o, s, h, n, fun b z => ⟨(ho b z).1.back e, (ho b z).2⟩, fun b z => (hs b z).imp (fun q => q.back e) id, ha⟩
end
theorem Less.mem {o s o' s' : List Addr} (l : Less o s o' s') {b : Addr} (h : b ∈ s') : b ∈ o ∨ b ∈ s := by
  have h1 := List.count_pos_iff.mpr h
  have h2 := l.all b
  by_cases z : b ∈ o
  · exact .inl z
  · have := List.count_eq_zero.mpr z
    exact .inr (List.count_pos_iff.mp (by omega))
theorem Less.omem {o s o' s' : List Addr} (l : Less o s o' s') {b : Addr} (h : b ∈ o') : b ∈ o := by
  have h1 := List.count_pos_iff.mpr h
  have h2 := l.own b
  exact List.count_pos_iff.mp (by omega)
theorem nodup_count {l : List Addr} : l.Nodup ↔ ∀ b, l.count b ≤ 1 := List.nodup_iff_count
theorem Less.nodup {o s o' s' : List Addr} (l : Less o s o' s') (n : o.Nodup) : o'.Nodup := by
  rw [nodup_count] at *
  exact fun b => Nat.le_trans (l.own b) (n b)
theorem Less.apart {o s o' s' : List Addr} (l : Less o s o' s') (n : o.Nodup) (h : ∀ b ∈ o, b ∉ s) : ∀ b ∈ o', b ∉ s' := fun b hb hs => by
  have h1 := List.count_pos_iff.mpr hb
  have h2 := List.count_pos_iff.mpr hs
  have h3 := l.all b
  have h4 := nodup_count.mp n b
  have h5 := List.count_eq_zero.mpr (h b (l.omem hb))
  omega
section
variable {K : PySem.W.Frag} {H₀ H H' H1 : Hp} {nd : List (List Addr × List Addr)} {T U : Tv} {d : D} {ds : List D} {v : V} {vs : List V}
/-- New ones are new since the entry -/
theorem New.from (e : Same H₀ H) {b : Addr} (h : New K H b) : New K H₀ b := h.back e
theorem VlL.less (sm : Same H₀ H) {B : List Nat} {a : Bool} (hB : ∀ i ∈ T.B, i ∈ B) (ha : a = false → T.a = false) {t : Ty} (ht : Ty.le T.nm t = true) (hn : (⟨t, B, a⟩ : Tv).nm = t) (h : VlL K H₀ H H' nd T ds vs) : VlL K H₀ H H' nd ⟨t, B, a⟩ ds vs := by
  obtain ⟨o, s, h, n, ho, hs, hf⟩ := h
  obtain ⟨p, q, h', l⟩ := RwL.less ds ht h
  refine ⟨p, q, by rw [hn]; exact h', l.nodup n, fun b z => ⟨(ho b (l.omem z)).1, l.apart n (fun b z => (ho b z).2) b z⟩, fun b z => ?_, fun e b z => ?_⟩
  · rcases l.mem z with z | z
    · exact .inl (ho b z).1
    · exact (hs b z).imp id (fun ⟨i, p, h1, h2⟩ => ⟨i, p, h1, h2.imp id fun z => ⟨hB i z.1, z.2⟩⟩)
  · rcases l.mem z with z | z
    · exact (ho b z).1.back sm
    · exact hf (ha e) b z
theorem Vl.less (sm : Same H₀ H) {B : List Nat} {a : Bool} (hB : ∀ i ∈ T.B, i ∈ B) (ha : a = false → T.a = false) {t : Ty} (ht : Ty.le T.t t = true) (h : Vl K H₀ H H' nd T d v) : Vl K H₀ H H' nd ⟨t, B, a⟩ d v := by
  obtain ⟨o, s, h, n, ho, hs, hf⟩ := h
  obtain ⟨p, q, h', l⟩ := Rw.less d ht h
  refine ⟨p, q, h', l.nodup n, fun b z => ⟨(ho b (l.omem z)).1, l.apart n (fun b z => (ho b z).2) b z⟩, fun b z => ?_, fun e b z => ?_⟩
  · rcases l.mem z with z | z
    · exact .inl (ho b z).1
    · exact (hs b z).imp id (fun ⟨i, p, h1, h2⟩ => ⟨i, p, h1, h2.imp id fun z => ⟨hB i z.1, z.2⟩⟩)
  · rcases l.mem z with z | z
    · exact (ho b z).1.back sm
    · exact hf (ha e) b z
theorem Tv.le_nm (T : Tv) : Ty.le T.t T.nm = true := by
  unfold Tv.nm
  split
  · exact Ty.le_refl _
  · exact Ty.le_S _
theorem Tv.nm_nm (T : Tv) : (⟨T.nm, T.B, T.a⟩ : Tv).nm = T.nm := by
  unfold Tv.nm
  split <;> rfl
theorem Vl.nm (sm : Same H₀ H) (h : Vl K H₀ H H' nd T d v) : Vl K H₀ H H' nd ⟨T.nm, T.B, T.a⟩ d v := Vl.less sm (fun _ z => z) (fun z => z) T.le_nm h
theorem Tv.nm_or (T : Tv) : (T.B = [] ∧ T.nm = T.t) ∨ T.nm = .S := by
  unfold Tv.nm
  split
  · rename_i h; exact .inl ⟨h, rfl⟩
  · exact .inr rfl
/-- a value ahead of the others -/
theorem VlL.cons (sm : Same H₀ H) (e1 : Same H H1) (e2 : Same H1 H') (hold : ∀ (i : Nat) (p : List Addr × List Addr), nd[i]? = some p → ∀ b, b ∈ p.1 ∨ b ∈ p.2 → Old K H b)
    (h : Vl K H₀ H H1 nd T d v) (hl : VlL K H₀ H1 H' nd U ds vs) : VlL K H₀ H H' nd (T.both U) (d :: ds) (v :: vs) := by
  obtain ⟨o, s, h, n, ho, hs, hf⟩ := Vl.nm sm h
  obtain ⟨p, q, hl, n', ho', hs', hf'⟩ := hl
  have old1 : ∀ b, b ∈ o ∨ b ∈ s → Old K H1 b := Rw.old d h
  have key : ∃ o2 s2, RwL K H' (d :: ds) (Ty.join T.nm U.nm) (v :: vs) o2 s2 ∧ Less (o ++ p) (s ++ q) o2 s2 := by
    obtain ⟨o1, s1, h1, l1⟩ := Rw.less d (Ty.le_join T.nm U.nm).1 (Rw.same e2 d h)
    obtain ⟨o2, s2, h2, l2⟩ := RwL.less ds (Ty.le_join T.nm U.nm).2 hl
    exact ⟨_, _, rwl_cons.mpr ⟨v, vs, o1, s1, o2, s2, rfl, rfl, rfl, h1, h2⟩, l1.app l2⟩
  obtain ⟨o2, s2, h2, l⟩ := key
  have hnm : Ty.le (Ty.join T.nm U.nm) (T.both U).nm = true := Tv.le_nm (T.both U)
  obtain ⟨o3, s3, h3, l3⟩ := RwL.less (d :: ds) hnm h2
  have nd1 : (o ++ p).Nodup := by
    rw [List.nodup_append]
    refine ⟨n, n', fun b hb c hc e => ?_⟩
    subst e
    exact old1 b (.inl hb) (ho' b hc).1
  have ap1 : ∀ b ∈ o ++ p, b ∉ s ++ q := fun b hb hq => by
    rcases List.mem_append.mp hb with hb | hb <;> rcases List.mem_append.mp hq with hq | hq
    · exact (ho b hb).2 hq
    · have nb := (ho b hb).1
      rcases hs' b hq with z | ⟨i, pp, z1, z2⟩
      · exact old1 b (.inl hb) z
      · exact hold i pp z1 b (z2.elim .inr fun z => .inl z.2) nb
    · exact old1 b (.inr hq) (ho' b hb).1
    · exact (ho' b hb).2 hq
  have newo : ∀ b ∈ o ++ p, New K H b := fun b hb => (List.mem_append.mp hb).elim (fun z => (ho b z).1) fun z => (ho' b z).1.back e1
  have n2 := l.nodup nd1
  have a2 := l.apart nd1 ap1
  refine ⟨o3, s3, h3, l3.nodup n2, fun b z => ⟨newo b (l.omem (l3.omem z)), l3.apart n2 a2 b z⟩, fun b z => ?_, fun e b z => ?_⟩
  · have z' : b ∈ o ++ p ∨ b ∈ s ++ q := (l3.mem z).elim (fun z => .inl (l.omem z)) fun z => l.mem z
    rcases z' with z | z
    · exact .inl (newo b z)
    · rcases List.mem_append.mp z with z | z
      · exact (hs b z).imp id (fun ⟨i, p, h1, h2⟩ => ⟨i, p, h1, h2.imp id fun z => ⟨List.mem_append_left _ z.1, z.2⟩⟩)
      · exact (hs' b z).imp (fun q => q.back e1) (fun ⟨i, p, h1, h2⟩ => ⟨i, p, h1, h2.imp id fun z => ⟨List.mem_append_right _ z.1, z.2⟩⟩)
  · have e : T.a = false ∧ U.a = false := by
      have e : (T.a || U.a) = false := e
      simpa using e
    have z' : b ∈ o ++ p ∨ b ∈ s ++ q := (l3.mem z).elim (fun z => .inl (l.omem z)) fun z => l.mem z
    rcases z' with z | z
    · exact (newo b z).back sm
    · rcases List.mem_append.mp z with z | z
      · exact hf e.1 b z
      · exact hf' e.2 b z
end
end VS
set_option Elab.async false
set_option linter.all false
set_option maxRecDepth 100000
namespace VS
open PySem PySem.Spec L2
open PyProof.Rows hiding St
/-! ### list + list, whatever list -/
def rCatL (K : PySem.W.Frag) : R2 := fun x y H Q => ∃ l b xs zs, x = .ref l ∧ y = .ref b ∧ SqL K H l xs ∧ SqL K H b zs ∧ xs.length + zs.length ≤ sizeLine ∧ ∀ p, H p = none → Q (.ref p) (upd H p (.lst (xs ++ zs)))
theorem op_catL {X : Cx} : OpR X (binaryOp .Add) (rCatL X.K) := by
  intro pins s σ H x y v u Q I rx ry h
  obtain ⟨l, b, xs, zs, rfl, rfl, hH, hB, hz, q⟩ := h
  cases rx
  cases ry
  obtain ⟨its, r, p1, _⟩ := I.list hH
  obtain ⟨its2, r2, p2, _⟩ := I.list hB
  obtain ⟨⟨cls, dd, data, sl⟩, n, ho, hc, hdn, hd⟩ := p1
  obtain ⟨⟨cls2, dd2, data2, sl2⟩, n2, ho2, hc2, hdn2, hd2⟩ := p2
  simp only at hc hd hc2 hd2
  subst hc hd hc2 hd2
  have hl := r.length
  have hl2 := r2.length
  have e : its.toArray ++ its2.toArray = (its ++ its2).toArray := by simp
  refine concat_meets ⟨_, ho, rfl⟩ ⟨_, ho2, rfl⟩ noFill_list_add seq_list_add PySem.F.slot_list_add PySem.F.entry_list_add (PySem.F.args_list_add_2 _ _) (list_addW l b its.toArray its2.toArray n n2 dd dd2 sl sl2 (by simp only [List.size_toArray]; omega)) ⟨ho, ho2, ?_⟩
  rw [e]
  exact ⟨.ref _, _, I.lnew (t' := s.toks) (r.append r2) (by rw [List.length_append]; omega), rfl, q _ I.fresh⟩
section
variable {X : Cx} {σ : St} {H₀ Hb H : Hp} {nd : List (List Addr × List Addr)} {T : Tv} {d1 d2 : D} {x y : V} {Q : VK} {t1 t2 : Ty} {o1 s1 o2 s2 : List Addr}
/-! ### arithmetic -/
theorem wo_ari {op : Operator} (kf : KF X.K H) (h1 : Rw X.K H d1 t1 x o1 s1) (h2 : Rw X.K H d2 t2 y o2 s2)
    (h : FinG X σ H (ariD op d1 d2) fun d H' => ∀ v, Vl X.K H₀ Hb H' nd T d v → Q v H') : WO X (binaryOp op) x y H Q := by
  cases d1 with
  | int i =>
    cases d2 with
    | int j =>
      rw [rw_int] at h1 h2
      obtain ⟨rfl, _⟩ := h1
      obtain ⟨rfl, _⟩ := h2
      have go : ∀ k : Int, FinG X σ H (.ok (PyData.int k)) (fun d H' => ∀ v, Vl X.K H₀ Hb H' nd T d v → Q v H') → Q (.int k) H := fun k h => h.ok kf _ (.int k)
      cases op with
      | Add => exact WO.of op_add ⟨i, j, rfl, rfl, go _ h⟩
      | Sub => exact WO.of op_sub ⟨i, j, rfl, rfl, go _ h⟩
      | Mult =>
        obtain ⟨c, h⟩ := FinG.ite h
        rcases c with c | c | c
        · exact WO.of op_mul ⟨i, j, rfl, rfl, .inl (by omega), go _ h⟩
        · exact WO.of op_mul ⟨i, j, rfl, rfl, .inr (by omega), go _ h⟩
        · exact WO.of op_mulW ⟨i, j, rfl, rfl, c, go _ h⟩
      | FloorDiv =>
        have h : FinG X σ H (if 0 < j ∧ j.natAbs.log2 < 9000 then R.ok (PyData.int (i / j)) else if j ≠ 0 ∧ j.natAbs < 1073741824 then .ok (PyData.int (i.fdiv j)) else .no) _ := h
        by_cases c : 0 < j ∧ j.natAbs.log2 < 9000
        · rw [if_pos c] at h
          exact WO.of op_fdivW ⟨i, j, rfl, rfl, c, go _ h⟩
        · rw [if_neg c] at h
          obtain ⟨c, h⟩ := FinG.ite h
          exact WO.of op_fdivN ⟨i, j, rfl, rfl, c, go _ h⟩
      | Mod =>
        have h : FinG X σ H (if 0 < j then R.ok (PyData.int (i % j)) else if j ≠ 0 then .ok (PyData.int (i.fmod j)) else .no) _ := h
        by_cases c : 0 < j
        · rw [if_pos c] at h
          exact WO.of op_mod ⟨i, j, rfl, rfl, c, go _ h⟩
        · rw [if_neg c] at h
          obtain ⟨c, h⟩ := FinG.ite h
          exact WO.of op_modN ⟨i, j, rfl, rfl, c, go _ h⟩
      | Pow =>
        obtain ⟨c, h⟩ := FinG.ite h
        exact WO.of op_pow ⟨i, j, rfl, rfl, c, go _ h⟩
      | LShift =>
        obtain ⟨c, h⟩ := FinG.ite h
        exact WO.of op_shl ⟨i, j, rfl, rfl, c, go _ h⟩
      | RShift =>
        obtain ⟨c, h⟩ := FinG.ite h
        exact WO.of op_shr ⟨i, j, rfl, rfl, c, go _ h⟩
      | _ => exact False.elim h
    | _ => exact False.elim h
  | _ => exact False.elim h
/-! ### comparisons -/
theorem rw_isnon (h1 : Rw X.K H d1 t1 x o1 s1) : decide (x = .non) = isNonD d1 := by
  cases d1 with
  | none => rw [rw_non] at h1; rw [h1.1]; rfl
  | bool b => rw [rw_bl] at h1; rw [h1.1]; rfl
  | int b => rw [rw_int] at h1; rw [h1.1]; rfl
  | str b => rw [rw_str] at h1; rw [h1.1]; rfl
  | tuple b => rw [rw_tup] at h1; obtain ⟨a, vs, rfl, _⟩ := h1; rfl
  | list b => rw [rw_lst] at h1; obtain ⟨a, vs, _, _, rfl, _⟩ := h1; rfl
  | dict b => rw [rw_dct] at h1; obtain ⟨a, vs, _, _, rfl, _⟩ := h1; rfl
theorem canLay_of_shaped {d : D} (h : SeqAt.shaped d = true) : d.canLay0 = true := SeqAt.canLay_of_shaped h
theorem wo_eq (hu : X.A.units + 64 < cLine) (kf : KF X.K H) (h1 : Rw X.K H d1 t1 x o1 s1) (h2 : Rw X.K H d2 t2 y o2 s2)
    (h : FinG X σ H (eqD d1 d2) fun c H' => Q (.bl c) H') : WO X (compareOp .Eq) x y H Q := by
  obtain ⟨⟨c1, c2⟩, h⟩ := FinG.ite h
  exact WO.of (op_eqD hu) ⟨d1, d2, Rw.dp d1 (canLay_of_shaped c1) h1, Rw.dp d2 (canLay_of_shaped c2) h2, c1, c2, h.ok kf⟩
theorem wo_ne (hu : X.A.units + 64 < cLine) (kf : KF X.K H) (h1 : Rw X.K H d1 t1 x o1 s1) (h2 : Rw X.K H d2 t2 y o2 s2)
    (h : FinG X σ H (eqD d1 d2) fun c H' => Q (.bl (!c)) H') : WO X (compareOp .NotEq) x y H Q := by
  obtain ⟨⟨c1, c2⟩, h⟩ := FinG.ite h
  exact WO.of (op_neD hu) ⟨d1, d2, Rw.dp d1 (canLay_of_shaped c1) h1, Rw.dp d2 (canLay_of_shaped c2) h2, c1, c2, h.ok kf⟩
theorem wo_in (hu : X.A.units + 65 < cLine) (kf : KF X.K H) (h1 : Rw X.K H d1 t1 x o1 s1) (h2 : Rw X.K H d2 t2 y o2 s2)
    (h : FinG X σ H (inD d1 d2) fun c H' => Q (.bl c) H') : WO X (compareOp .In) x y H Q := by
  cases d2 with
  | list ds =>
    obtain ⟨⟨c1, c2⟩, h⟩ := FinG.ite h
    exact WO.of (op_inD hu) ⟨d1, ds, Rw.dp d1 (canLay_of_shaped c1) h1, Rw.dp _ (canLay_of_shaped c2) h2, c1, c2, h.ok kf⟩
  | _ => exact False.elim h
theorem wo_notIn (hu : X.A.units + 65 < cLine) (kf : KF X.K H) (h1 : Rw X.K H d1 t1 x o1 s1) (h2 : Rw X.K H d2 t2 y o2 s2)
    (h : FinG X σ H (inD d1 d2) fun c H' => Q (.bl (!c)) H') : WO X (compareOp .NotIn) x y H Q := by
  cases d2 with
  | list ds =>
    obtain ⟨⟨c1, c2⟩, h⟩ := FinG.ite h
    exact WO.of (op_notInD hu) ⟨d1, ds, Rw.dp d1 (canLay_of_shaped c1) h1, Rw.dp _ (canLay_of_shaped c2) h2, c1, c2, h.ok kf⟩
  | _ => exact False.elim h
theorem FinG.not {r : R Bool} {k : Bool → Hp → Prop} (h : FinG X σ H (notR r) k) : FinG X σ H r fun c H' => k (!c) H' := by
  cases r with
  | ok a => exact h
  | ex x => exact h
  | no => exact h
theorem wo_cmp {op : CmpOp} (hu : X.A.units + 65 < cLine) (kf : KF X.K H) (h1 : Rw X.K H d1 t1 x o1 s1) (h2 : Rw X.K H d2 t2 y o2 s2)
    (h : FinG X σ H (cmpD op d1 d2) fun c H' => Q (.bl c) H') : WO X (compareOp op) x y H Q := by
  have hu' : X.A.units + 64 < cLine := by omega
  cases op with
  | Eq => exact wo_eq hu' kf h1 h2 h
  | NotEq => exact wo_ne hu' kf h1 h2 (FinG.not h)
  | In => exact wo_in hu kf h1 h2 h
  | NotIn => exact wo_notIn hu kf h1 h2 (FinG.not h)
  | Is =>
    cases d2 with
    | none =>
      rw [rw_non] at h2
      refine WO.of op_isN ⟨h2.1, ?_⟩
      rw [rw_isnon h1]
      exact FinG.ok (σ := σ) h kf
    | bool c => cases d1 with
      | bool d =>
        rw [rw_bl] at h1 h2
        exact WO.of op_is_bl ⟨d, c, h1.1, h2.1, FinG.ok (σ := σ) h kf⟩
      | _ => exact False.elim h
    | _ => exact False.elim h
  | IsNot =>
    have h := FinG.not h
    cases d2 with
    | none =>
      rw [rw_non] at h2
      refine WO.of op_notN ⟨h2.1, ?_⟩
      rw [rw_isnon h1]
      exact FinG.ok (σ := σ) h kf
    | bool c => cases d1 with
      | bool d =>
        rw [rw_bl] at h1 h2
        exact WO.of op_isnot_bl ⟨d, c, h1.1, h2.1, FinG.ok (σ := σ) h kf⟩
      | _ => exact False.elim h
    | _ => exact False.elim h
  | Lt =>
    cases d1 with
    | int i => cases d2 with
      | int j =>
        rw [rw_int] at h1 h2
        exact WO.of op_lt ⟨i, j, h1.1, h2.1, FinG.ok (σ := σ) h kf⟩
      | _ => exact False.elim h
    | _ => exact False.elim h
  | LtE =>
    cases d1 with
    | int i => cases d2 with
      | int j =>
        rw [rw_int] at h1 h2
        exact WO.of op_le ⟨i, j, h1.1, h2.1, FinG.ok (σ := σ) h kf⟩
      | _ => exact False.elim h
    | _ => exact False.elim h
  | Gt =>
    cases d1 with
    | int i => cases d2 with
      | int j =>
        rw [rw_int] at h1 h2
        exact WO.of op_gt ⟨i, j, h1.1, h2.1, FinG.ok (σ := σ) h kf⟩
      | _ => exact False.elim h
    | _ => exact False.elim (by cases d2 <;> exact h)
  | GtE =>
    cases d1 with
    | int i => cases d2 with
      | int j =>
        rw [rw_int] at h1 h2
        exact WO.of op_ge ⟨i, j, h1.1, h2.1, FinG.ok (σ := σ) h kf⟩
      | _ => exact False.elim h
    | _ => exact False.elim (by cases d2 <;> exact h)
/-! ### displays, items, slices -/
theorem sq_of_rd {K : PySem.W.Frag} {H : Hp} {a : Addr} {vs : List V} (h : H a = some (.tup vs)) : SqT K H a vs := .inl (.inl h)
/-- a new list of items -/
theorem Vl.newLst {K : PySem.W.Frag} {Hx : Hp} {ds : List D} {vs : List V} {p : Addr} (sm : Same H₀ Hb) (e1 : Same Hb Hx) (n : Hx p = none) (kf : KF K (upd Hx p (.lst vs))) (h : VlL K H₀ Hb Hx nd T ds vs)
    (hold : ∀ (i : Nat) (q : List Addr × List Addr), nd[i]? = some q → ∀ b, b ∈ q.1 ∨ b ∈ q.2 → Old K Hb b) :
    Vl K H₀ Hb (upd Hx p (.lst vs)) nd (if T.nm = .F then .fr else ⟨.L T.nm, T.B, T.a⟩) (.list ds) (.ref p) := by
  obtain ⟨o, s, h, no, ho, hs, ha⟩ := h
  have np : New K Hx p := new_of kf n
  have h' := RwL.same (same_upd (o := .lst vs) n) ds h
  have hp : p ∉ o ∧ p ∉ s := ⟨fun z => RwL.old ds h p (.inl z) np, fun z => RwL.old ds h p (.inr z) np⟩
  by_cases c : T.nm = .F
  · rw [if_pos c]
    rw [c] at h'
    have e := RwL.f_s ds h'
    subst e
    exact ⟨p :: o, [], Rw.lstF upd_same h', List.nodup_cons.mpr ⟨hp.1, no⟩, fun b z => ⟨(List.mem_cons.mp z).elim (fun q => q ▸ np.back e1) fun q => (ho b q).1, by simp⟩, by simp, by simp⟩
  · rw [if_neg c]
    refine ⟨p :: o, s, Rw.lstL upd_same h', List.nodup_cons.mpr ⟨hp.1, no⟩, fun b z => ?_, hs, ha⟩
    rcases List.mem_cons.mp z with rfl | z
    · exact ⟨np.back e1, hp.2⟩
    · exact ho b z
theorem Vl.newTup {K : PySem.W.Frag} {Hx : Hp} {ds : List D} {vs : List V} {p : Addr} (sm : Same H₀ Hb) (n : Hx p = none) (h : VlL K H₀ Hb Hx nd T ds vs) :
    Vl K H₀ Hb (upd Hx p (.tup vs)) nd (if T.nm = .F then .fr else ⟨.S, T.B, T.a⟩) (.tuple ds) (.ref p) := by
  by_cases c : T.nm = .F
  · rw [if_pos c]
    obtain ⟨o, s, h, no, ho, hs, ha⟩ := h
    have h' := RwL.same (same_upd (o := .tup vs) n) ds h
    rw [c] at h'
    have e := RwL.f_s ds h'
    subst e
    exact ⟨o, [], rw_tup.mpr ⟨p, vs, rfl, .inl (.inl upd_same), h'⟩, no, fun b z => ⟨(ho b z).1, by simp⟩, by simp, by simp⟩
  · rw [if_neg c]
    have h2 := VlL.less sm (B := T.B) (a := T.a) (fun _ z => z) (fun z => z) (t := .S) (Ty.le_S _) (by unfold Tv.nm; split <;> rfl) h
    obtain ⟨o, s, h, no, ho, hs, ha⟩ := h2
    have h' := RwL.same (same_upd (o := .tup vs) n) ds h
    have e : (⟨.S, T.B, T.a⟩ : Tv).nm = .S := by unfold Tv.nm; split <;> rfl
    rw [e] at h'
    exact ⟨o, s, rw_tup.mpr ⟨p, vs, rfl, .inl (.inl upd_same), h'⟩, no, ho, hs, ha⟩
/-- an item of a value -/
theorem Vl.itm {K : PySem.W.Frag} {H' : Hp} {d e : D} {v w : V} {o s o' s' : List Addr} (sm : Same H₀ Hb) (no : o.Nodup) (ho : ∀ b ∈ o, New K Hb b ∧ b ∉ s)
    (hs : ∀ b ∈ s, New K Hb b ∨ ∃ i p, nd[i]? = some p ∧ (b ∈ p.2 ∨ (i ∈ T.B ∧ b ∈ p.1))) (ha : T.a = false → ∀ b ∈ s, New K H₀ b)
    (h : Rw K H' e t1 w o' s') (l1 : o'.Sublist o) (l2 : s'.Sublist s) (ht : T.nm = .F → t1 = .F) : Vl K H₀ Hb H' nd (if T.nm = .F then .fr else ⟨.S, T.B, T.a⟩) e w := by
  by_cases c : T.nm = .F
  · rw [if_pos c]
    rw [ht c] at h
    have e := Rw.f_s _ h
    subst e
    exact ⟨o', [], h, l1.nodup no, fun b z => ⟨(ho b (l1.subset z)).1, by simp⟩, by simp, by simp⟩
  · rw [if_neg c]
    obtain ⟨p, q, h2, l⟩ := Rw.less e (Ty.le_S t1) h
    have e0 := Rw.s_o _ h2
    subst e0
    refine ⟨[], q, h2, List.nodup_nil, by simp, fun b z => ?_, fun a b z => ?_⟩
    · rcases l.mem z with z | z
      · exact .inl (ho b (l1.subset z)).1
      · exact hs b (l2.subset z)
    · rcases l.mem z with z | z
      · exact (ho b (l1.subset z)).1.back sm
      · exact ha a b (l2.subset z)
theorem atI_some {α : Type} {xs : List α} {i : Int} {d : α} (h : atI xs i = some d) : ∃ j, ixN xs.length i = some j ∧ xs[j]? = some d := by
  unfold atI at h
  cases q : ixN xs.length i with
  | none => rw [q] at h; cases h
  | some j => rw [q] at h; exact ⟨j, rfl, h⟩
theorem atI_of {α : Type} {xs : List α} {i : Int} {j : Nat} {d : α} (h : ixN xs.length i = some j) (h2 : xs[j]? = some d) : atI xs i = some d := by
  unfold atI
  rw [h]; exact h2
theorem Tv.nm_tu {T : Tv} (h : T.nm = .F) : T.t = .F := by
  unfold Tv.nm at h
  split at h
  · exact h
  · cases h
theorem we_ix (sm : Same H₀ Hb) (kf : KF X.K H) (h1 : Vl X.K H₀ Hb H nd T d1 x) (h2 : Rw X.K H d2 t2 y o2 s2)
    (h : FinG X σ H (ixD d1 d2) fun d H' => ∀ v, Vl X.K H₀ Hb H' nd (if T.nm = .F then .fr else ⟨.S, T.B, T.a⟩) d v → Q v H') : rIx X.K x y H Q := by
  obtain ⟨o, s, h1, no, ho, hs, ha⟩ := h1
  cases d1 with
  | list xs =>
    cases d2 with
    | int i =>
      rw [rw_int] at h2
      obtain ⟨rfl, _⟩ := h2
      rw [rw_lst] at h1
      obtain ⟨a, vs, o', s', rfl, hl, hr, n⟩ := h1
      cases q : atI xs i with
      | none => unfold ixD at h; simp only [q] at h; exact False.elim h
      | some d =>
        unfold ixD at h
        simp only [q] at h
        obtain ⟨j, e1, e2⟩ := atI_some q
        obtain ⟨w, o3, s3, e3, h3, l1, l2⟩ := hr.item e2
        refine .inl ⟨a, vs, i, w, rfl, rfl, hl.sq, atI_of (by rw [hr.length]; exact e1) e3, h.ok kf _ ?_⟩
        have sub : o'.Sublist o ∧ s'.Sublist s := by
          cases hT : T.t <;> (rw [hT] at n; obtain ⟨rfl, rfl⟩ := n; constructor <;> first | exact List.Sublist.refl _ | exact List.sublist_cons_self _ _)
        exact Vl.itm (d := .none) (v := .non) sm no ho hs ha h3 (l1.trans sub.1) (l2.trans sub.2) fun c => by rw [Tv.nm_tu c]; rfl
    | _ => exact False.elim h
  | tuple xs =>
    cases d2 with
    | int i =>
      rw [rw_int] at h2
      obtain ⟨rfl, _⟩ := h2
      rw [rw_tup] at h1
      obtain ⟨a, vs, rfl, hl, hr⟩ := h1
      cases q : atI xs i with
      | none => unfold ixD at h; simp only [q] at h; exact False.elim h
      | some d =>
        unfold ixD at h
        simp only [q] at h
        obtain ⟨j, e1, e2⟩ := atI_some q
        obtain ⟨w, o3, s3, e3, h3, l1, l2⟩ := hr.item e2
        refine .inr (.inl ⟨a, vs, i, w, rfl, rfl, hl, atI_of (by rw [hr.length]; exact e1) e3, h.ok kf _ ?_⟩)
        exact Vl.itm (d := .none) (v := .non) sm no ho hs ha h3 l1 l2 fun c => by rw [Tv.nm_tu c]; rfl
    | _ => exact False.elim h
  | str z =>
    cases d2 with
    | int i =>
      rw [rw_int] at h2
      obtain ⟨rfl, _⟩ := h2
      rw [rw_str] at h1
      obtain ⟨rfl, _⟩ := h1
      unfold ixD at h
      by_cases c : z.length ≤ sizeLine
      · simp only [if_pos c] at h
        cases q : atI z.cps.toList i with
        | none => simp only [q] at h; exact False.elim h
        | some d =>
          simp only [q] at h
          exact .inr (.inr ⟨z, i, d, rfl, rfl, c, q, h.ok kf _ (.str _)⟩)
      · simp only [if_neg c] at h; exact False.elim h
    | _ => exact False.elim h
  | _ => exact False.elim (by cases d2 <;> exact h)
end
end VS
set_option Elab.async false
set_option linter.all false
set_option maxRecDepth 100000
namespace VS
open PySem PySem.Spec L2
open PyProof.Rows hiding St
section
variable {K : PySem.W.Frag} {H : Hp} {t : Ty}
theorem RwL.drop : ∀ (n : Nat) {ds : List D} {vs : List V} {o s : List Addr}, RwL K H ds t vs o s → ∃ o' s', RwL K H (ds.drop n) t (vs.drop n) o' s' ∧ o'.Sublist o ∧ s'.Sublist s
  | 0, _, _, o, s, h => ⟨o, s, h, .refl _, .refl _⟩
  | n + 1, [], _, _, _, h => by
    rw [rwl_nil] at h
    obtain ⟨rfl, rfl, rfl⟩ := h
    exact ⟨[], [], rwl_nil.mpr ⟨rfl, rfl, rfl⟩, .refl _, .refl _⟩
  | n + 1, d :: ds, _, _, _, h => by
    rw [rwl_cons] at h
    obtain ⟨v, vs', o1, s1, o2, s2, rfl, rfl, rfl, h1, h2⟩ := h
    obtain ⟨o', s', h3, l1, l2⟩ := RwL.drop n h2
    exact ⟨o', s', h3, l1.trans (List.sublist_append_right _ _), l2.trans (List.sublist_append_right _ _)⟩
theorem RwL.take : ∀ (n : Nat) {ds : List D} {vs : List V} {o s : List Addr}, RwL K H ds t vs o s → ∃ o' s', RwL K H (ds.take n) t (vs.take n) o' s' ∧ o'.Sublist o ∧ s'.Sublist s
  | 0, _, _, o, s, h => ⟨[], [], by rw [List.take_zero, List.take_zero]; exact rwl_nil.mpr ⟨rfl, rfl, rfl⟩, List.nil_sublist _, List.nil_sublist _⟩
  | n + 1, [], _, _, _, h => by
    rw [rwl_nil] at h
    obtain ⟨rfl, rfl, rfl⟩ := h
    exact ⟨[], [], rwl_nil.mpr ⟨rfl, rfl, rfl⟩, .refl _, .refl _⟩
  | n + 1, d :: ds, _, _, _, h => by
    rw [rwl_cons] at h
    obtain ⟨v, vs', o1, s1, o2, s2, rfl, rfl, rfl, h1, h2⟩ := h
    obtain ⟨o', s', h3, l1, l2⟩ := RwL.take n h2
    exact ⟨o1 ++ o', s1 ++ s', rwl_cons.mpr ⟨v, _, o1, s1, o', s', rfl, rfl, rfl, h1, h3⟩, (List.Sublist.refl _).append l1, (List.Sublist.refl _).append l2⟩
end
section
variable {X : Cx} {σ : St} {H₀ Hb H : Hp} {nd : List (List Addr × List Addr)} {T U : Tv} {d1 d2 : D} {x y : V} {Q : VK} {t1 t2 : Ty} {o1 s1 o2 s2 : List Addr}
/-- the items of a list, a tuple -/
theorem VlL.sub {K : PySem.W.Frag} {H' : Hp} {ds es : List D} {vs ws : List V} {o s o' s' : List Addr} {tt : Ty} (no : o.Nodup) (ho : ∀ b ∈ o, New K Hb b ∧ b ∉ s)
    (hs : ∀ b ∈ s, New K Hb b ∨ ∃ i p, nd[i]? = some p ∧ (b ∈ p.2 ∨ (i ∈ T.B ∧ b ∈ p.1))) (ha : T.a = false → ∀ b ∈ s, New K H₀ b)
    (h : RwL K H' es tt ws o' s') (l1 : o'.Sublist o) (l2 : s'.Sublist s) (ht : (⟨tt, T.B, T.a⟩ : Tv).nm = tt) : VlL K H₀ Hb H' nd ⟨tt, T.B, T.a⟩ es ws :=
  ⟨o', s', by rw [ht]; exact h, l1.nodup no, fun b z => ⟨(ho b (l1.subset z)).1, fun q => (ho b (l1.subset z)).2 (l2.subset q)⟩, fun b z => hs b (l2.subset z), fun e b z => ha e b (l2.subset z)⟩
theorem Nd.sub {t : Ty} {a : Addr} {o' s' o s : List Addr} (n : Nd t a o' s' o s) : o'.Sublist o ∧ s'.Sublist s := by
  cases t <;> (obtain ⟨rfl, rfl⟩ := n; constructor <;> first | exact List.Sublist.refl _ | exact List.sublist_cons_self _ _)
/-- a value's items, owned as the value's type says when nothing else leans on it -/
theorem Vl.items {K : PySem.W.Frag} {H' : Hp} {ds : List D} {v : V} (sm : Same H₀ Hb) (h : Vl K H₀ Hb H' nd T (.list ds) v) :
    ∃ a vs, v = .ref a ∧ SqL K H' a vs ∧ VlL K H₀ Hb H' nd ⟨T.nm.el, T.B, T.a⟩ ds vs := by
  obtain ⟨o, s, h, no, ho, hs, ha⟩ := Vl.nm sm h
  rw [rw_lst] at h
  obtain ⟨a, vs, o', s', rfl, hl, hr, n⟩ := h
  have e : (⟨T.nm.el, T.B, T.a⟩ : Tv).nm = T.nm.el := by
    unfold Tv.nm
    split
    · rfl
    · rfl
  exact ⟨a, vs, rfl, hl.sq, VlL.sub (T := T) (ds := ds) (vs := vs) no ho hs ha hr n.sub.1 n.sub.2 e⟩
theorem Vl.itemsT {K : PySem.W.Frag} {H' : Hp} {ds : List D} {v : V} (sm : Same H₀ Hb) (h : Vl K H₀ Hb H' nd T (.tuple ds) v) :
    ∃ a vs, v = .ref a ∧ SqT K H' a vs ∧ VlL K H₀ Hb H' nd ⟨T.nm.tu, T.B, T.a⟩ ds vs := by
  obtain ⟨o, s, h, no, ho, hs, ha⟩ := Vl.nm sm h
  rw [rw_tup] at h
  obtain ⟨a, vs, rfl, hl, hr⟩ := h
  have e : (⟨T.nm.tu, T.B, T.a⟩ : Tv).nm = T.nm.tu := by
    unfold Tv.nm
    split
    · rfl
    · rfl
  exact ⟨a, vs, rfl, hl, VlL.sub (T := T) (ds := ds) (vs := vs) no ho hs ha hr (.refl _) (.refl _) e⟩
theorem Tv.nm_mk {t : Ty} {B : List Nat} {a : Bool} (h : B = [] ∨ t = .S) : (⟨t, B, a⟩ : Tv).nm = t := by
  unfold Tv.nm
  split
  · rfl
  · rcases h with h | h
    · exact absurd h (by assumption)
    · exact h.symm
theorem Tv.nm_B (T : Tv) : T.B = [] ∨ T.nm = .S := by
  unfold Tv.nm
  split
  · exact .inl (by assumption)
  · exact .inr rfl
/-- the new list's type may be said in this way -/
theorem Vl.relst {K : PySem.W.Frag} {H' : Hp} {ds : List D} {v : V} {t : Ty} {B : List Nat} {a : Bool} (sm : Same H₀ Hb) (h : Vl K H₀ Hb H' nd (if (⟨t, B, a⟩ : Tv).nm = .F then .fr else ⟨.L (⟨t, B, a⟩ : Tv).nm, B, a⟩) (.list ds) v)
    (hn : (⟨t, B, a⟩ : Tv).nm = t) : Vl K H₀ Hb H' nd (if t = .F then .fr else ⟨.L t, B, a⟩) (.list ds) v := by
  rw [hn] at h; exact h
theorem we_slc {lo hi : Option Int} (sm : Same H₀ Hb) (e1 : Same Hb H) (hold : ∀ (i : Nat) (q : List Addr × List Addr), nd[i]? = some q → ∀ b, b ∈ q.1 ∨ b ∈ q.2 → Old X.K Hb b)
    (h1 : Vl X.K H₀ Hb H nd T d1 x)
    (h : FinG X σ H (slcD d1 lo hi) fun d H' => ∀ v, Vl X.K H₀ Hb H' nd (if T.nm = .F then .fr else ⟨.L T.nm.el, T.B, T.a⟩) d v → Q v H') :
    rSlL X.K x lo hi H fun v H' => KF X.K H' → Q v H' := by
  cases d1 with
  | list ds =>
    obtain ⟨a, vs, rfl, hl, hv⟩ := h1.items sm
    refine ⟨a, vs, rfl, hl, fun p n kf => ?_⟩
    refine h _ (same_upd n) kf _ ?_
    obtain ⟨o, s, hr, no, ho, hs, ha⟩ := hv
    have en : (⟨T.nm.el, T.B, T.a⟩ : Tv).nm = T.nm.el := Tv.nm_mk (T.nm_B.imp id fun q => by rw [q]; rfl)
    rw [en] at hr
    have hlen := hr.length
    obtain ⟨o', s', h3, l1, l2⟩ := hr.drop (HT.sIx ds.length 0 lo)
    obtain ⟨o'', s'', h4, l3, l4⟩ := h3.take (HT.sIx ds.length ds.length hi - HT.sIx ds.length 0 lo)
    have hv2 : VlL X.K H₀ Hb H nd ⟨T.nm.el, T.B, T.a⟩ (cutD ds lo hi) (cutV vs lo hi) := by
      unfold cutV cutD
      rw [hlen]
      exact VlL.sub (T := ⟨T.nm.el, T.B, T.a⟩) (ds := ds) (vs := vs) no ho hs ha h4 (l3.trans l1) (l4.trans l2) en
    have hv3 := Vl.relst sm (Vl.newLst sm e1 n kf hv2 hold) en
    have q2 : (if T.nm.el = .F then Tv.fr else ⟨.L T.nm.el, T.B, T.a⟩) = (if T.nm = .F then Tv.fr else ⟨.L T.nm.el, T.B, T.a⟩) ∨ (T.nm.el = .F ∧ T.nm ≠ .F) := by
      by_cases c : T.nm = .F
      · left; rw [if_pos c, c]; rfl
      · by_cases c2 : T.nm.el = .F
        · exact .inr ⟨c2, c⟩
        · left; rw [if_neg c, if_neg c2]
    rcases q2 with q2 | ⟨q2, q3⟩
    · rw [← q2]; exact hv3
    · rw [if_pos q2] at hv3
      rw [if_neg q3, q2]
      exact Vl.less (T := .fr) sm (by intro i z; exact nomatch z) (fun _ => rfl) (by decide) hv3
  | _ => exact False.elim h
theorem VlL.append {K : PySem.W.Frag} {H1 H' : Hp} {ds es : List D} {vs ws : List V} (sm : Same H₀ Hb) (e1 : Same Hb H1) (e2 : Same H1 H') (hold : ∀ (i : Nat) (p : List Addr × List Addr), nd[i]? = some p → ∀ b, b ∈ p.1 ∨ b ∈ p.2 → Old K Hb b)
    (h : VlL K H₀ Hb H1 nd T ds vs) (hl : VlL K H₀ H1 H' nd U es ws) : VlL K H₀ Hb H' nd (T.both U) (ds ++ es) (vs ++ ws) := by
  obtain ⟨o, s, h, n, ho, hs, hf⟩ := h
  obtain ⟨p, q, hl, n', ho', hs', hf'⟩ := hl
  have old1 : ∀ b, b ∈ o ∨ b ∈ s → Old K H1 b := RwL.old ds h
  have key : ∃ o2 s2, RwL K H' (ds ++ es) (Ty.join T.nm U.nm) (vs ++ ws) o2 s2 ∧ Less (o ++ p) (s ++ q) o2 s2 := by
    obtain ⟨o1, s1, h1, l1⟩ := RwL.less ds (Ty.le_join T.nm U.nm).1 (RwL.same e2 ds h)
    obtain ⟨o2, s2, h2, l2⟩ := RwL.less es (Ty.le_join T.nm U.nm).2 hl
    exact ⟨_, _, RwL.app h1 h2, l1.app l2⟩
  obtain ⟨o2, s2, h2, l⟩ := key
  have hnm : Ty.le (Ty.join T.nm U.nm) (T.both U).nm = true := Tv.le_nm (T.both U)
  obtain ⟨o3, s3, h3, l3⟩ := RwL.less (ds ++ es) hnm h2
  have nd1 : (o ++ p).Nodup := by
    rw [List.nodup_append]
    refine ⟨n, n', fun b hb c hc e => ?_⟩
    subst e
    exact old1 b (.inl hb) (ho' b hc).1
  have ap1 : ∀ b ∈ o ++ p, b ∉ s ++ q := fun b hb hq => by
    rcases List.mem_append.mp hb with hb | hb <;> rcases List.mem_append.mp hq with hq | hq
    · exact (ho b hb).2 hq
    · have nb := (ho b hb).1
      rcases hs' b hq with z | ⟨i, pp, z1, z2⟩
      · exact old1 b (.inl hb) z
      · exact hold i pp z1 b (z2.elim .inr fun z => .inl z.2) nb
    · exact old1 b (.inr hq) (ho' b hb).1
    · exact (ho' b hb).2 hq
  have newo : ∀ b ∈ o ++ p, New K Hb b := fun b hb => (List.mem_append.mp hb).elim (fun z => (ho b z).1) fun z => (ho' b z).1.back e1
  have n2 := l.nodup nd1
  have a2 := l.apart nd1 ap1
  refine ⟨o3, s3, h3, l3.nodup n2, fun b z => ⟨newo b (l.omem (l3.omem z)), l3.apart n2 a2 b z⟩, fun b z => ?_, fun e b z => ?_⟩
  · have z' : b ∈ o ++ p ∨ b ∈ s ++ q := (l3.mem z).elim (fun z => .inl (l.omem z)) fun z => l.mem z
    rcases z' with z | z
    · exact .inl (newo b z)
    · rcases List.mem_append.mp z with z | z
      · exact (hs b z).imp id (fun ⟨i, p, h1, h2⟩ => ⟨i, p, h1, h2.imp id fun z => ⟨List.mem_append_left _ z.1, z.2⟩⟩)
      · exact (hs' b z).imp (fun q => q.back e1) (fun ⟨i, p, h1, h2⟩ => ⟨i, p, h1, h2.imp id fun z => ⟨List.mem_append_right _ z.1, z.2⟩⟩)
  · have e : T.a = false ∧ U.a = false := by
      have e : (T.a || U.a) = false := e
      simpa using e
    have z' : b ∈ o ++ p ∨ b ∈ s ++ q := (l3.mem z).elim (fun z => .inl (l.omem z)) fun z => l.mem z
    rcases z' with z | z
    · exact (newo b z).back sm
    · rcases List.mem_append.mp z with z | z
      · exact hf e.1 b z
      · exact hf' e.2 b z
theorem Ty.join_F : ∀ {a b : Ty}, Ty.join a b = .F → a = .F ∧ b = .F
  | .S, _, h => nomatch h
  | .F, .F, _ => ⟨rfl, rfl⟩
  | .F, .S, h => nomatch h
  | .F, .L _, h => nomatch h
  | .L _, .S, h => nomatch h
  | .L _, .F, h => nomatch h
  | .L _, .L _, h => nomatch h
theorem Ty.join_S (a : Ty) : Ty.join a .S = .S := by cases a <;> rfl
theorem wo_cat {H1 : Hp} (sm : Same H₀ Hb) (e1 : Same Hb H1) (e2 : Same H1 H) (kf : KF X.K H) (hold : ∀ (i : Nat) (q : List Addr × List Addr), nd[i]? = some q → ∀ b, b ∈ q.1 ∨ b ∈ q.2 → Old X.K Hb b)
    (h1 : Vl X.K H₀ Hb H1 nd T d1 x) (h2 : Vl X.K H₀ H1 H nd U d2 y)
    (h : FinG X σ H (catD d1 d2) fun d H' => ∀ v, Vl X.K H₀ Hb H' nd (catT T U) d v → Q v H') : WO X (binaryOp .Add) x y H Q := by
  cases d1 with
  | list xs =>
    cases d2 with
    | list ys =>
      obtain ⟨c, h⟩ := FinG.ite h
      obtain ⟨a, vs, rfl, hl, hv⟩ := h1.items sm
      obtain ⟨b, ws, rfl, hl', hv'⟩ := h2.items (sm.trans e1)
      have len1 : vs.length = xs.length := by obtain ⟨_, _, z, _⟩ := hv; exact z.length
      have len2 : ws.length = ys.length := by obtain ⟨_, _, z, _⟩ := hv'; exact z.length
      refine WO.kf (WO.of op_catL ⟨a, b, vs, ws, rfl, rfl, e2.seq hl, hl', by omega, fun p n kf' => h _ (same_upd n) kf' _ ?_⟩)
      have hv3 := VlL.append sm e1 e2 hold hv hv'
      have hv4 := Vl.newLst sm (e1.trans e2) n kf' hv3 hold
      have n1 : (⟨T.nm.el, T.B, T.a⟩ : Tv).nm = T.nm.el := Tv.nm_mk (T.nm_B.imp id fun q => by rw [q]; rfl)
      have n2 : (⟨U.nm.el, U.B, U.a⟩ : Tv).nm = U.nm.el := Tv.nm_mk (U.nm_B.imp id fun q => by rw [q]; rfl)
      have n3 : ((⟨T.nm.el, T.B, T.a⟩ : Tv).both ⟨U.nm.el, U.B, U.a⟩).nm = Ty.join T.nm.el U.nm.el := by
        unfold Tv.both
        rw [n1, n2]
        refine Tv.nm_mk ?_
        rcases T.nm_B with q | q
        · rcases U.nm_B with q' | q'
          · left; show T.B ++ U.B = []; rw [q, q']; rfl
          · right; rw [q']; exact Ty.join_S _
        · right; rw [q]; rfl
      rw [n3] at hv4
      unfold catT
      by_cases c1 : T.nm = .F ∧ U.nm = .F
      · rw [if_pos c1]
        rw [if_pos (by rw [c1.1, c1.2]; rfl)] at hv4
        exact hv4
      · rw [if_neg c1]
        by_cases c2 : Ty.join T.nm.el U.nm.el = .F
        · rw [if_pos c2] at hv4
          rw [c2]
          exact Vl.less (T := .fr) sm (by intro i z; exact nomatch z) (fun _ => rfl) (by decide) hv4
        · rw [if_neg c2] at hv4
          exact hv4
    | _ => exact False.elim h
  | tuple xs =>
    cases d2 with
    | tuple ys =>
      obtain ⟨⟨c0, c⟩, h⟩ := FinG.ite h
      obtain ⟨a, vs, rfl, hl, hv⟩ := h1.itemsT sm
      obtain ⟨b, ws, rfl, hl', hv'⟩ := h2.itemsT (sm.trans e1)
      have len1 : vs.length = xs.length := by obtain ⟨_, _, z, _⟩ := hv; exact z.length
      have len2 : ws.length = ys.length := by obtain ⟨_, _, z, _⟩ := hv'; exact z.length
      have n1 : (⟨T.nm.tu, T.B, T.a⟩ : Tv).nm = T.nm.tu := Tv.nm_mk (T.nm_B.imp id fun q => by rw [q]; rfl)
      have n2 : (⟨U.nm.tu, U.B, U.a⟩ : Tv).nm = U.nm.tu := Tv.nm_mk (U.nm_B.imp id fun q => by rw [q]; rfl)
      have n3 : ((⟨T.nm.tu, T.B, T.a⟩ : Tv).both ⟨U.nm.tu, U.B, U.a⟩).nm = Ty.join T.nm.tu U.nm.tu := by
        unfold Tv.both
        rw [n1, n2]
        refine Tv.nm_mk ?_
        rcases T.nm_B with q | q
        · rcases U.nm_B with q' | q'
          · left; show T.B ++ U.B = []; rw [q, q']; rfl
          · right; rw [q']; exact Ty.join_S _
        · right; rw [q]; rfl
      have fin : ∀ {Hx : Hp} {w : V}, Vl X.K H₀ Hb Hx nd (if Ty.join T.nm.tu U.nm.tu = .F then .fr else ⟨.S, T.B ++ U.B, T.a || U.a⟩) (.tuple (xs ++ ys)) w → Vl X.K H₀ Hb Hx nd (catT T U) (.tuple (xs ++ ys)) w := fun {Hx w} z => by
        unfold catT
        by_cases c1 : T.nm = .F ∧ U.nm = .F
        · rw [if_pos c1]
          rw [if_pos (by rw [c1.1, c1.2]; rfl)] at z
          exact z
        · rw [if_neg c1]
          have z2 : Vl X.K H₀ Hb Hx nd ⟨.S, T.B ++ U.B, T.a || U.a⟩ (.tuple (xs ++ ys)) w := by
            by_cases c2 : Ty.join T.nm.tu U.nm.tu = .F
            · rw [if_pos c2] at z
              exact Vl.less (T := .fr) sm (by intro i z; exact nomatch z) (fun _ => rfl) (by decide) z
            · rw [if_neg c2] at z; exact z
          obtain ⟨o, s, r, no, ho, hs, ha⟩ := z2
          rw [rw_tup] at r
          exact ⟨o, s, rw_tup.mpr r, no, ho, hs, ha⟩
      refine WO.kf (WO.of op_catT ⟨a, b, vs, ws, rfl, rfl, sqt_same e2 hl, hl', ?_, by omega, fun e kf' => ?_, fun e p n kf' => ?_⟩)
      · intro e; rw [e] at len1; exact c0 (List.length_eq_zero_iff.mp len1.symm)
      · refine h.ok kf _ (fin ?_)
        have e0 : ys = [] := by rw [e] at len2; exact List.length_eq_zero_iff.mp len2.symm
        subst e0
        rw [List.append_nil]
        have hT : Vl X.K H₀ Hb H nd (if T.nm = .F then .fr else ⟨.S, T.B ++ U.B, T.a || U.a⟩) (.tuple xs) (.ref a) := by
          have hh := Vl.to e2 (Vl.nm sm h1)
          by_cases c1 : T.nm = .F
          · rw [if_pos c1]
            rw [c1] at hh
            obtain ⟨o, s, r, no, ho, hs, ha⟩ := hh
            have es := Rw.f_s _ r
            subst es
            exact ⟨o, [], r, no, fun b z => ⟨(ho b z).1, by simp⟩, by simp, by simp⟩
          · rw [if_neg c1]
            exact Vl.less (T := ⟨T.nm, T.B, T.a⟩) sm (fun i z => List.mem_append_left _ z) (fun z => (by simpa using z : T.a = false ∧ U.a = false).1) (Ty.le_S _) hh
        by_cases c1 : Ty.join T.nm.tu U.nm.tu = .F
        · rw [if_pos c1]
          have := (Ty.join_F c1).1
          have c2 : T.nm = .F := by cases q : T.nm <;> rw [q] at this <;> first | rfl | exact nomatch this
          rw [if_pos c2] at hT
          exact hT
        · rw [if_neg c1]
          by_cases c2 : T.nm = .F
          · rw [if_pos c2] at hT
            exact Vl.less (T := .fr) sm (by intro i z; exact nomatch z) (fun _ => rfl) (by decide) hT
          · rw [if_neg c2] at hT; exact hT
      · refine h _ (same_upd n) kf' _ (fin ?_)
        have hv3 := VlL.append sm e1 e2 hold hv hv'
        have hv4 := Vl.newTup sm n hv3
        rw [n3] at hv4
        exact hv4
    | _ => exact False.elim h
  | str xs =>
    cases d2 with
    | str ys =>
      obtain ⟨c, h⟩ := FinG.ite h
      obtain ⟨_, _, _, r1⟩ := h1.rw
      obtain ⟨_, _, _, r2⟩ := h2.rw
      rw [rw_str] at r1 r2
      obtain ⟨rfl, _⟩ := r1
      obtain ⟨rfl, _⟩ := r2
      exact WO.of op_add_str ⟨xs, ys, rfl, rfl, c, h.ok kf _ (.str _)⟩
    | _ => exact False.elim h
  | _ => exact False.elim (by cases d2 <;> exact h)
/-! ### list * int -/
theorem RwL.rep {K : PySem.W.Frag} {H : Hp} {ds : List D} {vs : List V} {s : List Addr} (h : RwL K H ds .S vs [] s) : ∀ k : Nat, ∃ s', RwL K H (List.replicate k ds).flatten .S (List.replicate k vs).flatten [] s' ∧ ∀ b ∈ s', b ∈ s
  | 0 => ⟨[], rwl_nil.mpr ⟨rfl, rfl, rfl⟩, by simp⟩
  | k + 1 => by
    obtain ⟨s', h', l⟩ := RwL.rep h k
    refine ⟨s ++ s', ?_, fun b z => (List.mem_append.mp z).elim id (l b)⟩
    rw [List.replicate_succ, List.replicate_succ, List.flatten_cons, List.flatten_cons]
    exact RwL.app (o1 := []) (o2 := []) h h'
theorem wo_rep (sm : Same H₀ Hb) (e1 : Same Hb H) (kf : KF X.K H) (hold : ∀ (i : Nat) (q : List Addr × List Addr), nd[i]? = some q → ∀ b, b ∈ q.1 ∨ b ∈ q.2 → Old X.K Hb b)
    (h1 : Vl X.K H₀ Hb H nd T d1 x) (h2 : Rw X.K H d2 t2 y o2 s2) (htr : T.t ≠ .S)
    (h : FinG X σ H (repD d1 d2) fun d H' => ∀ v, Vl X.K H₀ Hb H' nd ⟨.L .S, T.B, T.a⟩ d v → Q v H') : WO X (binaryOp .Mult) x y H Q := by
  cases d1 with
  | list xs =>
    cases d2 with
    | int k =>
      obtain ⟨⟨c1, c2, c3⟩, h⟩ := FinG.ite h
      rw [rw_int] at h2
      obtain ⟨rfl, _⟩ := h2
      have hl0 : ∃ a vs, x = .ref a ∧ H a = some (.lst vs) := by
        obtain ⟨_, _, z, _⟩ := h1
        rw [rw_lst] at z
        obtain ⟨a, vs, _, _, e, hl, _⟩ := z
        cases q : T.t with
        | S => exact absurd q htr
        | F => rw [q] at hl; exact ⟨a, vs, e, hl⟩
        | L t0 => rw [q] at hl; exact ⟨a, vs, e, hl⟩
      obtain ⟨a0, vs0, e0, hl0⟩ := hl0
      obtain ⟨a, vs, rfl, hl, hv⟩ := h1.items sm
      obtain rfl : a = a0 := V.ref.inj e0
      have hl1 : H a = some (.lst vs) := by
        rcases hl with (hl | ⟨_, hl⟩) | ⟨o, _, _, hk, _⟩
        · exact hl
        · rw [hl0] at hl; cases hl
        · have := kf.1 a o hk; rw [hl0] at this; cases this
      have len1 : vs.length = xs.length := by obtain ⟨_, _, z, _⟩ := hv; exact z.length
      refine WO.kf (WO.of op_rep ⟨a, k, vs, rfl, rfl, hl1, c1, c2, by rw [len1]; exact c3, fun p n kf' => h _ (same_upd n) kf' _ ?_⟩)
      have n1 : (⟨.S, T.B, T.a⟩ : Tv).nm = .S := by unfold Tv.nm; split <;> rfl
      obtain ⟨o, s, r, no, ho, hs, ha⟩ := VlL.less (T := ⟨T.nm.el, T.B, T.a⟩) sm (B := T.B) (a := T.a) (fun _ z => z) (fun z => z) (t := .S) (Ty.le_S _) n1 hv
      rw [n1] at r
      have e0 := RwL.s_o _ r
      subst e0
      obtain ⟨s', r', l⟩ := r.rep k.toNat
      have hv2 : VlL X.K H₀ Hb H nd ⟨.S, T.B, T.a⟩ (List.replicate k.toNat xs).flatten (List.replicate k.toNat vs).flatten :=
        ⟨[], s', by rw [n1]; exact r', List.nodup_nil, by simp, fun b z => hs b (l b z), fun e b z => ha e b (l b z)⟩
      have hv3 := Vl.newLst sm e1 n kf' hv2 hold
      rw [n1] at hv3
      exact hv3
    | _ => exact False.elim h
  | _ => exact False.elim (by cases d2 <;> exact h)
/-! ### built-in functions -/
theorem rw_ints {K : PySem.W.Frag} {H : Hp} {t : Ty} : ∀ {ds : List D} {vs : List V} {o s : List Addr} {l : List Int}, RwL K H ds t vs o s → intsD ds = .ok l → vs = l.map V.int
  | [], _, _, _, _, h, e => by
    rw [rwl_nil] at h
    cases e
    exact h.1
  | d :: ds, _, _, _, l, h, e => by
    rw [rwl_cons] at h
    obtain ⟨v, vs', o1, s1, o2, s2, rfl, rfl, rfl, h1, h2⟩ := h
    cases d with
    | int i =>
      rw [rw_int] at h1
      obtain ⟨rfl, _⟩ := h1
      unfold intsD at e
      cases q : intsD ds with
      | ok l' =>
        rw [q] at e
        cases e
        rw [rw_ints h2 q]; rfl
      | ex x => rw [q] at e; cases e
      | no => rw [q] at e; cases e
    | _ => exact nomatch e
theorem intsD_no {ds : List D} {x : Ex} : intsD ds ≠ .ex x := by
  induction ds with
  | nil => exact nofun
  | cons d ds ih =>
    intro h
    cases d with
    | int i =>
      unfold intsD at h
      cases q : intsD ds with
      | ok l' => rw [q] at h; cases h
      | ex x => rw [q] at h; cases h; exact ih q
      | no => rw [q] at h; cases h
    | _ => exact nomatch h
theorem rw_one {K : PySem.W.Frag} {H : Hp} {t : Ty} {d : D} {vs : List V} {o s : List Addr} (h : RwL K H [d] t vs o s) : ∃ v, vs = [v] ∧ Rw K H d t v o s := by
  rw [rwl_cons] at h
  obtain ⟨v, vs', o1, s1, o2, s2, rfl, rfl, rfl, h1, h2⟩ := h
  rw [rwl_nil] at h2
  obtain ⟨rfl, rfl, rfl⟩ := h2
  exact ⟨v, rfl, by rw [List.append_nil, List.append_nil]; exact h1⟩
theorem rw_two {K : PySem.W.Frag} {H : Hp} {t : Ty} {d e : D} {vs : List V} {o s : List Addr} (h : RwL K H [d, e] t vs o s) : ∃ v w o1 s1 o2 s2, vs = [v, w] ∧ Rw K H d t v o1 s1 ∧ Rw K H e t w o2 s2 := by
  rw [rwl_cons] at h
  obtain ⟨v, vs', o1, s1, o2, s2, rfl, rfl, rfl, h1, h2⟩ := h
  obtain ⟨w, rfl, h3⟩ := rw_one h2
  exact ⟨v, w, o1, s1, o2, s2, rfl, h1, h3⟩
def BI.val : BI → Value
  | .len => .builtin "len"
  | .abs => .builtin "abs"
  | .int => .type "int"
  | .sum => .builtin "sum"
  | .list => .type "list"
  | .tuple => .type "tuple"
  | .max => .builtin "max"
  | .min => .builtin "min"
/-- one argument, its value's items -/
theorem VlL.arg {K : PySem.W.Frag} {H' : Hp} {d : D} {vs : List V} (h : VlL K H₀ Hb H' nd T [d] vs) : ∃ v, vs = [v] ∧ Vl K H₀ Hb H' nd ⟨T.nm, T.B, T.a⟩ d v := by
  obtain ⟨o, s, h, n, ho, hs, ha⟩ := h
  obtain ⟨v, e, h'⟩ := rw_one h
  exact ⟨v, e, o, s, h', n, ho, hs, ha⟩
theorem wc_blt {b : BI} {ds : List D} {vs : List V} (hc : X.calm = true) (sm : Same H₀ Hb) (e1 : Same Hb H) (kf : KF X.K H) (hold : ∀ (i : Nat) (q : List Addr × List Addr), nd[i]? = some q → ∀ b, b ∈ q.1 ∨ b ∈ q.2 → Old X.K Hb b)
    (hv : VlL X.K H₀ Hb H nd T ds vs) (h : FinG X σ H (bltD b ds) fun d H' => ∀ v, Vl X.K H₀ Hb H' nd (bltT b T) d v → Q v H') : WC X b.val vs H Q := by
  have hT : (⟨T.nm, T.B, T.a⟩ : Tv).nm = T.nm := T.nm_nm
  cases ds with
  | nil => cases b <;> exact False.elim h
  | cons d ds =>
    cases ds with
    | nil =>
      obtain ⟨v, rfl, hv1⟩ := hv.arg
      clear hv
      have hv := hv1
      clear hv1
      obtain ⟨t, o, s, hr⟩ := hv.rw
      cases b with
      | len =>
        cases d with
        | list xs =>
          obtain ⟨a, ws, rfl, hl, hw⟩ := hv.items sm
          have len1 : ws.length = xs.length := by obtain ⟨_, _, z, _⟩ := hw; exact z.length
          refine WC.of call_len ⟨.ref a, xs.length, rfl, .inl ⟨ws, hl, len1.symm⟩, h.ok kf _ (.int _)⟩
        | tuple xs =>
          obtain ⟨a, ws, rfl, hl, hw⟩ := hv.itemsT sm
          have len1 : ws.length = xs.length := by obtain ⟨_, _, z, _⟩ := hw; exact z.length
          refine WC.of call_len ⟨.ref a, xs.length, rfl, .inr ⟨ws, hl, len1.symm⟩, h.ok kf _ (.int _)⟩
        | str z =>
          obtain ⟨c, h⟩ := FinG.ite h
          rw [rw_str] at hr
          obtain ⟨rfl, _⟩ := hr
          exact WC.of call_len ⟨.str z, z.length, rfl, ⟨c, rfl⟩, h.ok kf _ (.int _)⟩
        | _ => exact False.elim h
      | abs =>
        cases d with
        | int i =>
          rw [rw_int] at hr
          obtain ⟨rfl, _⟩ := hr
          exact WC.of call_abs ⟨i, rfl, FinG.ok (σ := σ) h kf _ (.int _)⟩
        | _ => exact False.elim h
      | int =>
        cases d with
        | int i =>
          rw [rw_int] at hr
          obtain ⟨rfl, _⟩ := hr
          exact WC.of call_int1 (.inl ⟨i, rfl, FinG.ok (σ := σ) h kf _ (.int _)⟩)
        | bool i =>
          rw [rw_bl] at hr
          obtain ⟨rfl, _⟩ := hr
          exact WC.of call_int1 (.inr ⟨i, rfl, FinG.ok (σ := σ) h kf _ (.int _)⟩)
        | _ => exact False.elim h
      | sum =>
        cases d with
        | list xs =>
          have h : FinG X σ H (intsD xs >>= fun l => R.ok (PyData.int l.sum)) _ := h
          cases q : intsD xs with
          | ok l =>
            rw [q] at h
            obtain ⟨a, ws, rfl, hl, o', s', hw, _⟩ := hv.items sm
            have e := rw_ints hw q
            subst e
            exact WC.of (cr_sum hc) ⟨a, l, rfl, hl, FinG.ok (σ := σ) h kf _ (.int _)⟩
          | ex x => exact absurd q intsD_no
          | no => rw [q] at h; exact False.elim h
        | _ => exact False.elim h
      | list =>
        have key : ∀ (xs : List D) (ws : List V) (tt : Ty), VlL X.K H₀ Hb H nd ⟨tt, T.B, T.a⟩ xs ws → (tt = T.nm.el ∨ tt = T.nm.tu) → ∀ p, H p = none → KF X.K (upd H p (.lst ws)) → Vl X.K H₀ Hb (upd H p (.lst ws)) nd (bltT .list T) (.list xs) (.ref p) := fun xs ws tt hw ht p n kf' => by
          have n1 : (⟨tt, T.B, T.a⟩ : Tv).nm = tt := Tv.nm_mk (T.nm_B.imp id fun q => by rcases ht with rfl | rfl <;> (rw [q]; rfl))
          have hv4 := Vl.newLst sm e1 n kf' hw hold
          rw [n1] at hv4
          show Vl _ _ _ _ _ (if T.nm = .F then .fr else ⟨.L .S, T.B, T.a⟩) _ _
          by_cases c : T.nm = .F
          · have : tt = .F := by rcases ht with rfl | rfl <;> (rw [c]; rfl)
            rw [if_pos this] at hv4
            rw [if_pos c]
            exact hv4
          · rw [if_neg c]
            by_cases c2 : tt = .F
            · rw [if_pos c2] at hv4
              exact Vl.less (T := .fr) sm (by intro i z; exact nomatch z) (fun _ => rfl) (by decide) hv4
            · rw [if_neg c2] at hv4
              exact Vl.less (T := ⟨.L tt, T.B, T.a⟩) sm (fun _ z => z) (fun z => z) (Ty.le_S tt) hv4
        cases d with
        | list xs =>
          obtain ⟨a, ws, rfl, hl, hw⟩ := hv.items sm
          rw [hT] at hw
          exact WC.kf (WC.of call_list_of ⟨a, ws, rfl, .inl hl, fun p n kf' => FinG.ok (FinG.grow (σ := σ) (same_upd n) h) kf' _ (key xs ws _ hw (.inl rfl) p n kf')⟩)
        | tuple xs =>
          obtain ⟨a, ws, rfl, hl, hw⟩ := hv.itemsT sm
          rw [hT] at hw
          exact WC.kf (WC.of call_list_of ⟨a, ws, rfl, .inr hl, fun p n kf' => FinG.ok (FinG.grow (σ := σ) (same_upd n) h) kf' _ (key xs ws _ hw (.inr rfl) p n kf')⟩)
        | _ => exact False.elim h
      | tuple =>
        cases d with
        | list xs =>
          obtain ⟨a, ws, rfl, hl, hw⟩ := hv.items sm
          rw [hT] at hw
          refine WC.kf (WC.of call_tuple_of ⟨a, ws, rfl, .inl ⟨hl, fun p n kf' => FinG.ok (FinG.grow (σ := σ) (same_upd n) h) kf' _ ?_⟩⟩)
          have n1 : (⟨T.nm.el, T.B, T.a⟩ : Tv).nm = T.nm.el := Tv.nm_mk (T.nm_B.imp id fun q => by rw [q]; rfl)
          have hv4 := Vl.newTup sm n hw
          rw [n1] at hv4
          show Vl _ _ _ _ _ (if T.nm = .F then .fr else ⟨.S, T.B, T.a⟩) _ _
          by_cases c : T.nm = .F
          · rw [if_pos (by rw [c]; rfl)] at hv4
            rw [if_pos c]; exact hv4
          · rw [if_neg c]
            by_cases c2 : T.nm.el = .F
            · rw [if_pos c2] at hv4
              exact Vl.less (T := .fr) sm (by intro i z; exact nomatch z) (fun _ => rfl) (by decide) hv4
            · rw [if_neg c2] at hv4; exact hv4
        | tuple xs =>
          have hv0 := hv
          obtain ⟨a, ws, rfl, hl, hw⟩ := hv.itemsT sm
          refine WC.of call_tuple_of ⟨a, ws, rfl, .inr ⟨hl, FinG.ok (σ := σ) h kf _ ?_⟩⟩
          show Vl _ _ _ _ _ (if T.nm = .F then .fr else ⟨.S, T.B, T.a⟩) _ _
          by_cases c : T.nm = .F
          · rw [if_pos c]
            rw [c] at hv0
            obtain ⟨o, s, r, no, ho, hs, ha⟩ := hv0
            have es := Rw.f_s _ r
            subst es
            exact ⟨o, [], r, no, fun b z => ⟨(ho b z).1, by simp⟩, by simp, by simp⟩
          · rw [if_neg c]
            exact Vl.less (T := ⟨T.nm, T.B, T.a⟩) sm (fun i z => z) (fun z => z) (Ty.le_S _) hv0
        | _ => exact False.elim h
      | max => exact False.elim h
      | min => exact False.elim h
    | cons d2 ds =>
      cases ds with
      | nil =>
        obtain ⟨o, s, hr, _⟩ := hv
        obtain ⟨v, w, o1, s1, o2, s2, rfl, r1, r2⟩ := rw_two hr
        cases b with
        | max =>
          cases d with
          | int i => cases d2 with
            | int j =>
              rw [rw_int] at r1 r2
              obtain ⟨rfl, _⟩ := r1
              obtain ⟨rfl, _⟩ := r2
              exact WC.of (call_max2 hc) ⟨i, j, rfl, FinG.ok (σ := σ) h kf _ (.int _)⟩
            | _ => exact False.elim h
          | _ => exact False.elim h
        | min =>
          cases d with
          | int i => cases d2 with
            | int j =>
              rw [rw_int] at r1 r2
              obtain ⟨rfl, _⟩ := r1
              obtain ⟨rfl, _⟩ := r2
              exact WC.of (call_min2 hc) ⟨i, j, rfl, FinG.ok (σ := σ) h kf _ (.int _)⟩
            | _ => exact False.elim h
          | _ => exact False.elim h
        | _ => exact False.elim h
      | cons d3 ds => exact False.elim h
/-! ### isinstance -/
theorem kit_tab : ∀ (a : TN) (t : String) (d : D), ((d = .none ∧ t = "NoneType") ∨ (∃ b, d = .bool b ∧ t = "bool") ∨ (∃ b, d = .int b ∧ t = "int") ∨ (∃ b, d = .str b ∧ t = "str") ∨ (∃ b, d = .list b ∧ t = "list") ∨ (∃ b, d = .tuple b ∧ t = "tuple")) → kitB t a.nm = some (isiB a d) := by
  intro a t d h
  rcases h with ⟨rfl, rfl⟩ | ⟨b, rfl, rfl⟩ | ⟨b, rfl, rfl⟩ | ⟨b, rfl, rfl⟩ | ⟨b, rfl, rfl⟩ | ⟨b, rfl, rfl⟩ <;> cases a <;> (show kitB _ _ = some _; first | (show kitB _ _ = some true; decide +kernel) | (show kitB _ _ = some false; decide +kernel))
theorem rw_ty {K : PySem.W.Frag} {d : D} {v : V} {o s : List Addr} (h : Rw K H d t1 v o s) (hd : ∀ l, d ≠ .dict l) : ∃ t, TyX K H v (.type t) ∧ ((d = .none ∧ t = "NoneType") ∨ (∃ b, d = .bool b ∧ t = "bool") ∨ (∃ b, d = .int b ∧ t = "int") ∨ (∃ b, d = .str b ∧ t = "str") ∨ (∃ b, d = .list b ∧ t = "list") ∨ (∃ b, d = .tuple b ∧ t = "tuple")) := by
  cases d with
  | none => rw [rw_non] at h; rw [h.1]; exact ⟨_, .base .non, .inl ⟨rfl, rfl⟩⟩
  | bool b => rw [rw_bl] at h; rw [h.1]; exact ⟨_, .base (.bl b), .inr (.inl ⟨b, rfl, rfl⟩)⟩
  | int b => rw [rw_int] at h; rw [h.1]; exact ⟨_, .base (.int b), .inr (.inr (.inl ⟨b, rfl, rfl⟩))⟩
  | str b => rw [rw_str] at h; rw [h.1]; exact ⟨_, .base (.str b), .inr (.inr (.inr (.inl ⟨b, rfl, rfl⟩)))⟩
  | list b =>
    rw [rw_lst] at h
    obtain ⟨a, vs, _, _, rfl, hl, _⟩ := h
    refine ⟨"list", ?_, .inr (.inr (.inr (.inr (.inl ⟨b, rfl, rfl⟩))))⟩
    rcases hl.sq with (hl | ⟨ob, hl⟩) | ⟨ob, _, _, hk, hc, _⟩
    · exact .base (.lst hl)
    · exact .base (.frz hl)
    · exact .kList hk hc
  | tuple b =>
    rw [rw_tup] at h
    obtain ⟨a, vs, rfl, hl, _⟩ := h
    refine ⟨"tuple", ?_, .inr (.inr (.inr (.inr (.inr ⟨b, rfl, rfl⟩))))⟩
    rcases hl with (hl | ⟨ob, hl⟩) | ⟨ob, _, _, hk, hc, _⟩
    · exact .base (.tup hl)
    · exact .fTuple hl
    · exact .kTuple hk hc
  | dict b => exact absurd rfl (hd b)
theorem wc_isi {a : TN} (kf : KF X.K H) (h1 : Rw X.K H d1 t1 x o1 s1) (h : FinG X σ H (isiD a d1) fun d H' => ∀ v, Vl X.K H₀ Hb H' nd T d v → Q v H') : WC X (.builtin "isinstance") [x, .ty a.nm] H Q := by
  have hd : ∀ l, d1 ≠ .dict l := by rintro l rfl; exact h
  have e : isiD a d1 = .ok (.bool (isiB a d1)) := by
    cases d1 <;> first | rfl | exact absurd rfl (hd _)
  rw [e] at h
  obtain ⟨t, ht, hk⟩ := rw_ty h1 hd
  exact WC.of call_isi ⟨x, .ty a.nm, .type t, .type a.nm, isiB a d1, rfl, .ty _, ht, kit_ty (kit_tab a t d1 hk), h.ok kf _ (.bl _)⟩
end
end VS
set_option Elab.async false
set_option linter.all false
set_option maxRecDepth 100000
namespace VS
open PySem PySem.Spec L2
open PyProof.Rows hiding St
/-! ### storing -/
theorem SV.set {K : PySem.W.Frag} {H₀ H : Hp} {τ : Tys} {δ : Sl} {σ : St} {nd : List (List Addr × List Addr)} {d : D} {v : V} {s : List Addr} {a : Bool} {i : Nat}
    (h : SV K H₀ H τ δ σ nd) (r : Rw K H d .S v [] s) (ha : a = false → ∀ b ∈ s, New K H₀ b) :
    SV K H₀ H (τ.set i (some (.S, a))) (δ.set i (some d)) (σ.set i (some v)) (nd.set i ([], s)) where
  kf := h.kf
  sm := h.sm
  ls := by rw [List.length_set, List.length_set]; exact h.ls
  ln := by rw [List.length_set, List.length_set]; exact h.ln
  rep := fun j e t b h1 h2 => by
    by_cases hj : i = j
    · subst hj
      have hl : i < δ.length := by
        have := (List.getElem?_eq_some_iff.mp h1).1
        simpa using this
      have hl2 : i < τ.length := by
        have := (List.getElem?_eq_some_iff.mp h2).1
        simpa using this
      rw [List.getElem?_set_self hl] at h1
      rw [List.getElem?_set_self hl2] at h2
      cases h1
      cases h2
      exact ⟨v, [], s, List.getElem?_set_self (by rw [h.ls]; exact hl), List.getElem?_set_self (by rw [h.ln]; exact hl), r, ha⟩
    · rw [List.getElem?_set_ne hj] at h1 h2
      obtain ⟨w, o, s', h3, h4, h5⟩ := h.rep j e t b h1 h2
      exact ⟨w, o, s', by rw [List.getElem?_set_ne hj]; exact h3, by rw [List.getElem?_set_ne hj]; exact h4, h5⟩
  old := fun j p h1 b hb => by
    by_cases hj : i = j
    · subst hj
      have hl : i < nd.length := by
        have := (List.getElem?_eq_some_iff.mp h1).1
        simpa using this
      rw [List.getElem?_set_self hl] at h1
      cases h1
      exact Rw.old d r b hb
    · rw [List.getElem?_set_ne hj] at h1
      exact h.old j p h1 b hb
  own := fun j p h1 b hb => by
    by_cases hj : i = j
    · subst hj
      have hl : i < nd.length := by
        have := (List.getElem?_eq_some_iff.mp h1).1
        simpa using this
      rw [List.getElem?_set_self hl] at h1
      cases h1
      exact nomatch hb
    · rw [List.getElem?_set_ne hj] at h1
      exact h.own j p h1 b hb
/-- a slot forgotten -/
theorem SV.drop {K : PySem.W.Frag} {H₀ H : Hp} {τ : Tys} {δ : Sl} {σ : St} {nd : List (List Addr × List Addr)} {i : Nat}
    (h : SV K H₀ H τ δ σ nd) : SV K H₀ H (τ.set i none) (δ.set i none) (σ.set i none) (nd.set i ([], [])) where
  kf := h.kf
  sm := h.sm
  ls := by rw [List.length_set, List.length_set]; exact h.ls
  ln := by rw [List.length_set, List.length_set]; exact h.ln
  rep := fun j e t b h1 h2 => by
    by_cases hj : i = j
    · subst hj
      have hl : i < δ.length := by
        have := (List.getElem?_eq_some_iff.mp h1).1
        simpa using this
      rw [List.getElem?_set_self hl] at h1
      cases h1
    · rw [List.getElem?_set_ne hj] at h1 h2
      obtain ⟨w, o, s', h3, h4, h5⟩ := h.rep j e t b h1 h2
      exact ⟨w, o, s', by rw [List.getElem?_set_ne hj]; exact h3, by rw [List.getElem?_set_ne hj]; exact h4, h5⟩
  old := fun j p h1 b hb => by
    by_cases hj : i = j
    · subst hj
      have hl : i < nd.length := by
        have := (List.getElem?_eq_some_iff.mp h1).1
        simpa using this
      rw [List.getElem?_set_self hl] at h1
      cases h1
      exact absurd hb (by simp)
    · rw [List.getElem?_set_ne hj] at h1
      exact h.old j p h1 b hb
  own := fun j p h1 b hb => by
    by_cases hj : i = j
    · subst hj
      have hl : i < nd.length := by
        have := (List.getElem?_eq_some_iff.mp h1).1
        simpa using this
      rw [List.getElem?_set_self hl] at h1
      cases h1
      exact nomatch hb
    · rw [List.getElem?_set_ne hj] at h1
      exact h.own j p h1 b hb
/-- the slots' nodes behind: those of before, and those of s -/
def NdIn (nd nd' : List (List Addr × List Addr)) (s : List Addr) : Prop := ∀ (i : Nat) (p : List Addr × List Addr), nd'[i]? = some p → (nd[i]? = some p) ∨ (p.1 = [] ∧ ∀ b ∈ p.2, b ∈ s)
theorem NdIn.set {nd nd' : List (List Addr × List Addr)} {s s' : List Addr} {i : Nat} (h : NdIn nd nd' s) (hs : ∀ b ∈ s', b ∈ s) : NdIn nd (nd'.set i ([], s')) s := fun j p h1 => by
  by_cases hj : i = j
  · subst hj
    have hl : i < nd'.length := by
      have := (List.getElem?_eq_some_iff.mp h1).1
      simpa using this
    rw [List.getElem?_set_self hl] at h1
    cases h1
    exact .inr ⟨rfl, hs⟩
  · rw [List.getElem?_set_ne hj] at h1
    exact h j p h1
theorem NdIn.refl (nd : List (List Addr × List Addr)) (s : List Addr) : NdIn nd nd s := fun _ _ h => .inl h
theorem SV.wipe {K : PySem.W.Frag} {H₀ H : Hp} {τ : Tys} {δ : Sl} {σ : St} {nd : List (List Addr × List Addr)} (h : SV K H₀ H τ δ σ nd) :
    ∀ vs : List Nat, ∃ nd', SV K H₀ H (wipeT τ vs) (wipeD δ vs) (wipe σ vs) nd' ∧ NdIn nd nd' []
  | [] => ⟨nd, h, .refl _ _⟩
  | v :: vs => by
    obtain ⟨nd', h', n⟩ := SV.wipe h vs
    exact ⟨_, h'.drop, n.set (by simp)⟩
theorem wipe_set {σ : St} {v : V} {i : Nat} : ∀ {vs : List Nat}, i ∈ vs → wipe (σ.set i (some v)) vs = wipe σ vs
  | w :: vs, h => by
    show (wipe (σ.set i (some v)) vs).set w none = (wipe σ vs).set w none
    by_cases hw : i = w
    · subst hw
      by_cases hv : i ∈ vs
      · rw [wipe_set hv]
      · have key : ∀ us : List Nat, i ∉ us → wipe (σ.set i (some v)) us = (wipe σ us).set i (some v) := by
          intro us
          induction us with
          | nil => intro _; rfl
          | cons u us ih =>
            intro hu
            show (wipe (σ.set i (some v)) us).set u none = ((wipe σ us).set u none).set i (some v)
            rw [ih fun z => hu (List.mem_cons_of_mem _ z), List.set_comm _ _ fun e => hu (by rw [e]; exact List.mem_cons_self)]
        rw [key vs hv, List.set_set]
    · have hv : i ∈ vs := (List.mem_cons.mp h).resolve_left hw
      rw [wipe_set hv]
section
variable {C : Ctx} {S : Scp} {X : Cx} {H₀ H : Hp} {τ : Tys} {σ : St} {nd : List (List Addr × List Addr)} {s : List Addr} {a : Bool} {Q : St → Hp → Prop}
theorem stoC_get {i : Nat} {x : Str} (G : Gd C S X) (h : stoC S i x = true) : X.N[i]? = some x ∧ L2.Loc X.env.scope x ∧ (X.fn x = true ∨ X.env.scope.names.lookup x = some .local) := by
  unfold stoC at h
  simp only [Bool.and_eq_true, decide_eq_true_eq] at h
  obtain ⟨h1, h2⟩ := h
  rw [G.N, G.sc]
  refine ⟨h1, ?_⟩
  unfold L2.Loc
  split at h2
  · rename_i e; exact ⟨.inl e, .inr e⟩
  · rename_i e; exact ⟨.inr e, .inl (G.cel x h2)⟩
  · cases h2
theorem tgs_ok (G : Gd C S X) : ∀ (is : List Nat) (ps : List Expr) (δ δ' : Sl) (ds : List D) (vs : List V) (s' : List Addr) (τ : Tys) (σ : St) (nd nd0 : List (List Addr × List Addr)) (σ0 : St),
    tgsC S is ps = true → setTgs is ds δ = .ok δ' → RwL X.K H ds .S vs [] s' → (∀ b ∈ s', b ∈ s) → (a = false → ∀ b ∈ s', New X.K H₀ b) → SV X.K H₀ H τ δ σ nd → NdIn nd0 nd s →
    (∀ us : List Nat, (∀ i ∈ is, i ∈ us) → wipe σ us = wipe σ0 us ∨ True) →
    (∀ σ' nd', SV X.K H₀ H (is.foldl (fun τ i => τ.set i (some (.S, a))) τ) δ' σ' nd' → NdIn nd0 nd' s → (∀ us : List Nat, (∀ i ∈ is, i ∈ us) → wipe σ' us = wipe σ us) → Q σ' H) →
    ∃ t : TGs, PGs X ps t ∧ t vs σ H Q
  | [], [], δ, δ', ds, vs, s', τ, σ, nd, nd0, σ0, _, h2, h3, _, _, h6, h7, _, h8 => by
    cases ds with
    | nil =>
      cases h2
      rw [rwl_nil] at h3
      exact ⟨_, pgs_nil, h3.1, h8 σ nd h6 h7 fun _ _ => rfl⟩
    | cons d ds => cases h2
  | [], p :: ps, _, _, _, _, _, _, _, _, _, _, h, _, _, _, _, _, _, _, _ => by cases h
  | i :: is, [], _, _, _, _, _, _, _, _, _, _, h, _, _, _, _, _, _, _, _ => by cases h
  | i :: is, p :: ps, δ, δ', ds, vs, s', τ, σ, nd, nd0, σ0, h1, h2, h3, h4, h5, h6, h7, _, h8 => by
    cases ds with
    | nil => cases h2
    | cons d ds =>
      cases p with
      | Name x pos =>
        have h1 : (stoC S i x && tgsC S is ps) = true := h1
        rw [Bool.and_eq_true] at h1
        rw [rwl_cons] at h3
        obtain ⟨v, vs', o1, s1, o2, s2, rfl, eo, rfl, r1, r2⟩ := h3
        have e1 : o1 = [] := Rw.s_o _ r1
        have e2 : o2 = [] := RwL.s_o _ r2
        subst e1 e2
        obtain ⟨g1, g2, g3⟩ := stoC_get G h1.1
        have h2 : setTgs is ds (δ.set i (some d)) = .ok δ' := h2
        have sv := h6.set (a := a) (i := i) r1 fun e b hb => h5 e b (List.mem_append_left _ hb)
        obtain ⟨t, pt, q⟩ := tgs_ok G is ps _ _ ds vs' s2 _ _ _ nd0 σ h1.2 h2 r2 (fun b hb => h4 b (List.mem_append_right _ hb)) (fun e b hb => h5 e b (List.mem_append_right _ hb)) sv (h7.set fun b hb => h4 b (List.mem_append_left _ hb)) (fun _ _ => .inr trivial)
          (fun σ' nd' k1 k2 k3 => h8 σ' nd' k1 k2 fun us hu => (k3 us fun j hj => hu j (List.mem_cons_of_mem _ hj)).trans (wipe_set (hu i List.mem_cons_self)))
        exact ⟨_, pgs_cons (pg_name (i := i) (by rw [G.N]; exact G.nd) g1 g2 g3) pt, v, vs', rfl, q⟩
      | _ => cases h1
/-- an assignment to a target -/
theorem wg_tg (G : Gd C S X) {tg : Tg} {p : Expr} {δ δ' : Sl} {d : D} {v : V} (hc : tgC S tg p = true) (hs : setTg tg d δ = .ok δ') (r : Rw X.K H d .S v [] s) (ha : a = false → ∀ b ∈ s, New X.K H₀ b) (sv : SV X.K H₀ H τ δ σ nd)
    (h : ∀ σ' nd', SV X.K H₀ H (setTy tg (some (.S, a)) τ) δ' σ' nd' → NdIn nd nd' s → (∀ us : List Nat, tgIn us tg = true → wipe σ' us = wipe σ us) → Q σ' H) : WG X p v σ H Q := by
  cases tg with
  | one i =>
    cases p with
    | Name x pos =>
      have hc : stoC S i x = true := hc
      cases hs
      obtain ⟨g1, g2, g3⟩ := stoC_get G hc
      refine WG.of (pg_name (i := i) (by rw [G.N]; exact G.nd) g1 g2 g3) ?_
      exact h _ _ (sv.set r ha) ((NdIn.refl nd s).set fun b hb => hb) fun us hu => wipe_set (by simpa [tgIn] using hu)
    | _ => cases hc
  | tup is =>
    cases p with
    | Tuple es k pos =>
      have hc : tgsC S is es = true := hc
      cases d with
      | tuple ds =>
        rw [rw_tup] at r
        obtain ⟨q, vs, rfl, hq, hr⟩ := r
        have hs : setTgs is ds δ = .ok δ' := hs
        obtain ⟨t, pt, hq2⟩ := tgs_ok (Q := Q) G is es δ δ' ds vs s τ σ nd nd σ hc hs hr (fun b hb => hb) ha sv (.refl _ _) (fun _ _ => .inr trivial)
          (fun σ' nd' k1 k2 k3 => h σ' nd' k1 k2 fun us hu => k3 us fun j hj => by
            have hu : is.all (fun i => decide (i ∈ us)) = true := hu
            have := List.all_eq_true.mp hu j hj
            simpa using this)
        have lens : ∀ (is : List Nat) (es : List Expr), tgsC S is es = true → es.length = is.length := by
          intro is
          induction is with
          | nil => intro es hc; cases es with
            | nil => rfl
            | cons _ _ => cases hc
          | cons i is ih => intro es hc; cases es with
            | nil => cases hc
            | cons e es => cases e with
              | Name x pos =>
                have hc : (stoC S i x && tgsC S is es) = true := hc
                rw [Bool.and_eq_true] at hc
                rw [List.length_cons, List.length_cons, ih es hc.2]
              | _ => cases hc
        have hlen : es.length = is.length := lens is es hc
        have names : ∀ (is : List Nat) (es : List Expr), tgsC S is es = true → assignEach es X.env = es.map fun e => (false, assign e X.env) := by
          intro is
          induction is with
          | nil => intro es hc; cases es with
            | nil => rfl
            | cons _ _ => cases hc
          | cons i is ih => intro es hc; cases es with
            | nil => rfl
            | cons e es => cases e with
              | Name x pos =>
                have hc : (stoC S i x && tgsC S is es) = true := hc
                rw [Bool.and_eq_true] at hc
                show (false, assign (.Name x pos) X.env) :: assignEach es X.env = _
                rw [ih es hc.2]; rfl
              | _ => cases hc
        have na := names is es hc
        have hds : ds.length = is.length := by
          have key : ∀ (is : List Nat) (ds : List D) (δ : Sl), setTgs is ds δ = .ok δ' → ds.length = is.length := by
            intro is
            induction is with
            | nil => intro ds δ h; cases ds with
              | nil => rfl
              | cons _ _ => cases h
            | cons i is ih => intro ds δ h; cases ds with
              | nil => cases h
              | cons d ds => rw [List.length_cons, List.length_cons, ih ds _ h]
          exact key is ds δ hs
        refine WG.of (pg_tup (n := es.length) G.calm pt (by rw [na, List.length_map]) ?_) ⟨q, vs, rfl, hq, by rw [hr.length, hds, hlen], hq2⟩
        rw [na]
        rw [List.findIdx?_eq_none_iff]
        intro x hx
        obtain ⟨e, _, rfl⟩ := List.mem_map.mp hx
        rfl
      | _ => cases hs
    | _ => cases hc
end
end VS
set_option Elab.async false
set_option linter.all false
set_option maxRecDepth 100000
namespace VS
open PySem PySem.Spec L2
open PyProof.Rows hiding St
/-! ### promises of defs -/
def spF (K : PySem.W.Frag) (mg : Str → Option Value) (n : Nat) (F : List D → R D) (t : Ty) : Sp := fun vs H Q E => ∃ ds s, ds.length = n ∧ RwL K H ds .S vs [] s ∧ match F ds with
  | .ok d => ∀ v H', Same H H' → KF K H' → (∃ o s', Rw K H' d t v o s' ∧ o.Nodup ∧ (∀ b ∈ o, New K H b ∧ b ∉ s') ∧ ∀ b ∈ s', New K H b ∨ b ∈ s) → Q v H'
  | .ex x => ∀ cls dx H', Same H H' → KF K H' → ExR K mg H' x cls dx → E cls dx H'
  | .no => False
structure FnV (C : Ctx) (x : Str) (F : List D → R D) (t : Ty) : Prop where
  ex : ∃ (f : Addr) (fd : FuncData) (ps : List Str) (j : Nat), j ≤ C.k ∧ (∀ ds, F ds ≠ .no → ds.length = ps.length) ∧ FnOk C.P C.w C.K C.mg C.base (L2.CX C.P C.w) j f fd ps (spF C.K C.mg ps.length F t) ∧ C.mg x = some (.ref f) ∧ PySem.W.keepIn C.K (.ref f) = true ∧ Binds C.K fd ps []
def GlV (C : Ctx) (x : Str) (d : D) : Prop := ∃ u v, C.mg x = some u ∧ RelV v u ∧ imm d = true ∧ ∀ H, Rw C.K H d .S v [] []
def okE (C : Ctx) : E → Prop
  | .gl x d => GlV C x d
  | .ari _ a b => okE C a ∧ okE C b
  | .cat a b => okE C a ∧ okE C b
  | .rep a b => okE C a ∧ okE C b
  | .neg a => okE C a
  | .not a => okE C a
  | .and a b => okE C a ∧ okE C b
  | .or a b => okE C a ∧ okE C b
  | .one a => okE C a
  | .cmp _ a b => okE C a ∧ okE C b
  | .chain _ _ a b c => okE C a ∧ okE C b ∧ okE C c
  | .ife c a b => okE C c ∧ okE C a ∧ okE C b
  | .tup es => okE C es
  | .lst es => okE C es
  | .cons a es => okE C a ∧ okE C es
  | .ix a i => okE C a ∧ okE C i
  | .slc a lo hi => okE C a ∧ okE C lo ∧ okE C hi
  | .prt a => okE C a
  | .call x F t es => FnV C x F t ∧ okE C es
  | .blt _ es => okE C es
  | .isi _ a => okE C a
  | .comp _ _ it c e => okE C it ∧ okE C c ∧ okE C e
  | .rng1 a => okE C a
  | .rng2 a b => okE C a ∧ okE C b
  | .cI a => okE C a
  | .cL a => okE C a
  | .pr1 _ a => okE C a
  | .comp2 _ _ it _ it1 e => okE C it ∧ okE C it1 ∧ okE C e
  | .pr2 _ a b => okE C a ∧ okE C b
  | _ => True
/-! ### small looks at the text -/
theorem star_plain {e : Expr} {es : List Expr} {env : Env} (h : plainX e = true) : starEach (e :: es) env = (false, eval e env) :: starEach es env := by
  cases e <;> first | rfl | exact absurd (show false = true from h) (by decide)
theorem plain_any : ∀ {es : List Expr} {pos : Pos} {env : Env}, es.all plainX = true → (backTo pos (starEach es env)).any (·.1) = false
  | [], _, _, _ => rfl
  | e :: es, pos, env, h => by
    rw [List.all_cons, Bool.and_eq_true] at h
    rw [star_plain h.1]
    show (backTo pos ((false, eval e env) :: starEach es env)).any (·.1) = false
    unfold backTo
    rw [List.map_cons, List.any_cons]
    have := plain_any (pos := pos) (env := env) h.2
    unfold backTo at this
    rw [this]; rfl
theorem plain_ix {e : Expr} (h : plainX e = true) : PlainIx e := by
  cases e <;> first | (intro o i; rfl) | exact absurd (show false = true from h) (by decide)
theorem plain_marks {op : CmpOp} {e : Expr} (h : plainX e = true) : behindInMarks op e = false := by
  cases e <;> first | rfl | exact absurd (show false = true from h) (by decide)
theorem plain_folded {e : Expr} {env : Env} (h : plainX e = true) : ∀ x, foldedSetIterable e env x = pure x := by
  cases e <;> first | (intro x; rfl) | exact absurd (show false = true from h) (by decide)
theorem cks_plain {nb : List Str} : ∀ {e : E} {S : Scp} {ps : List Expr}, cks nb e S ps = true → ps.all plainX = true
  | .nil, S, [], _ => rfl
  | .cons a es, S, p :: ps, h => by
    unfold cks at h
    simp only [Bool.and_eq_true] at h
    rw [List.all_cons, h.1.1, cks_plain h.2]; rfl
  | .nil, _, _ :: _, h => by simp [cks] at h
  | .cons _ _, _, [], h => by simp [cks] at h
  | .sl _, _, _, h => by simp [cks] at h
  | .k _, _, _, h => by simp [cks] at h
  | .gl _ _, _, _, h => by simp [cks] at h
  | .ari _ _ _, _, _, h => by simp [cks] at h
  | .cat _ _, _, _, h => by simp [cks] at h
  | .rep _ _, _, _, h => by simp [cks] at h
  | .neg _, _, _, h => by simp [cks] at h
  | .not _, _, _, h => by simp [cks] at h
  | .and _ _, _, _, h => by simp [cks] at h
  | .or _ _, _, _, h => by simp [cks] at h
  | .one _, _, _, h => by simp [cks] at h
  | .cmp _ _ _, _, _, h => by simp [cks] at h
  | .chain _ _ _ _ _, _, _, h => by simp [cks] at h
  | .ife _ _ _, _, _, h => by simp [cks] at h
  | .tup _, _, _, h => by simp [cks] at h
  | .lst _, _, _, h => by simp [cks] at h
  | .ix _ _, _, _, h => by simp [cks] at h
  | .slc _ _ _, _, _, h => by simp [cks] at h
  | .nop, _, _, h => by simp [cks] at h
  | .prt _, _, _, h => by simp [cks] at h
  | .call _ _ _ _, _, _, h => by simp [cks] at h
  | .blt _ _, _, _, h => by simp [cks] at h
  | .isi _ _, _, _, h => by simp [cks] at h
  | .comp _ _ _ _ _, _, _, h => by simp [cks] at h
  | .rng1 _, _, _, h => by simp [cks] at h
  | .rng2 _ _, _, _, h => by simp [cks] at h
  | .cI _, _, _, h => by simp [cks] at h
  | .cL _, _, _, h => by simp [cks] at h
section
variable {C : Ctx} {S : Scp} {X : Cx}
theorem gl_of {x : Str} (G : Gd C S X) (h : glC S x = true) : Gl X x ∧ (x == ("__debug__" : Str)) = false := by
  unfold glC at h
  simp only [Bool.and_eq_true, decide_eq_true_eq, Bool.not_eq_true'] at h
  exact ⟨by unfold Gl Env.kindOf; rw [G.sc]; exact h.1, h.2⟩
theorem blt_of {x : Str} (G : Gd C S X) (h : bltC S C.nb x = true) : Gl X x ∧ (x == ("__debug__" : Str)) = false ∧ X.mg x = none ∧ x ≠ ("__name__" : Str) := by
  unfold bltC at h
  simp only [Bool.and_eq_true, decide_eq_true_eq] at h
  obtain ⟨⟨h1, h2⟩, h3⟩ := h
  obtain ⟨g1, g2⟩ := gl_of G h1
  exact ⟨g1, g2, by rw [G.mg]; exact C.hnb x h2, h3⟩
theorem vis_of {i : Nat} {x : Str} (G : Gd C S X) (h : visC S i x = true) : X.N[i]? = some x ∧ Vis X.env.scope x ∧ (x == ("__debug__" : Str)) = false ∧ (x == ("__classdict__" : Str)) = false := by
  unfold visC at h
  simp only [Bool.and_eq_true, decide_eq_true_eq, Bool.not_eq_true'] at h
  obtain ⟨⟨⟨h1, h2⟩, h3⟩, h4⟩ := h
  rw [G.N, G.sc]
  refine ⟨h1, ?_, h3, h4⟩
  unfold Vis
  split at h2
  · rename_i e; exact .inl e
  · rename_i e; exact .inr (.inl e)
  · rename_i e; exact .inr (.inr e)
  · cases h2
theorem Gd.blk (G : Gd C S X) (s : Shared) (H : Hp) (scope : Scope) (cl : List (Str × Addr)) (Ca : Addr) (fp : List Addr) : Gd C (S.blk scope) (X.blk s H scope (compEnvC scope cl Ca X.env) fp) :=
  ⟨G.P, G.w, G.K, G.mg, G.base, G.calm, G.room, G.N, by show relS scope X.env.scope = relS scope S.sc; rw [G.sc], G.nd, fun _ h => h⟩
theorem Gd.units (G : Gd C S X) : X.A.units + 64 < cLine := G.room.units
theorem Gd.units65 (G : Gd C S X) : X.A.units + 65 < cLine := by
  have := G.room.un
  omega
end
/-! ### a call -/
section
variable {C : Ctx} {S : Scp} {X : Cx} {H₀ Hb H : Hp} {σ : St} {nd : List (List Addr × List Addr)} {T : Tv} {Q : VK}
theorem we_call0 {sp : Sp} {E : XK} {x : Str} {p pos : Pos} {j : Nat} {f : Addr} {fd : FuncData} {pn : List Str} {ps : List Expr} (hpl : ps.all plainX = true) (F : FnOk X.prog X.w X.K X.mg X.base (L2.CX X.prog X.w) j f fd pn sp) (hr : Room j X.A) (hg : Gl X x) (hdb : (x == ("__debug__" : Str)) = false) (hm : X.mg x = some (.ref f))
    (hk : PySem.W.keepIn X.K (.ref f) = true) (hb : Binds X.K fd pn []) (hx : PassesAt (L2.CX X.prog X.w) X σ E) (h : WA X ps σ H fun vs H1 => sp vs H1 Q E) (h0 : ps = [] → sp [] H Q E) : WE X (.Call (.Name x p) ps [] pos) σ H Q := by
  intro pins s I
  cases ps with
  | nil =>
    refine wpAny_Call_Name_kw (ld_glob I hg hm ?_ hdb)
    have q := h0 rfl
    exact PySem.W.callWith_K0 I.kIn hk (run_fnSD (E := fun _ => E) (us := []) (dvs := []) F hr hb .nil hx I .nil q)
  | cons e es =>
    rw [List.all_cons, Bool.and_eq_true] at hpl
    refine wpAny_Call_Name_kw (ld_glob I hg hm ?_ hdb)
    refine PySem.W.callWith_K (h₀ := X.base) I.ok.mod.kin hk (thn (h pos pins s I) fun us s1 ⟨vs, H1, I1, r, q⟩ => ⟨I1.kIn, ?_⟩) (star_plain hpl.1) (plain_any hpl.2)
    exact run_fnSD (E := fun _ => E) (dvs := []) F hr hb .nil hx I1 r (by rw [List.append_nil]; exact q)
theorem VlL.allS {K : PySem.W.Frag} {H' : Hp} {ds : List D} {vs : List V} (sm : Same H₀ Hb) (h : VlL K H₀ Hb H' nd T ds vs) : ∃ s, RwL K H' ds .S vs [] s ∧
    (∀ b ∈ s, New K Hb b ∨ ∃ i p, nd[i]? = some p ∧ (b ∈ p.2 ∨ (i ∈ T.B ∧ b ∈ p.1))) ∧ (T.a = false → ∀ b ∈ s, New K H₀ b) := by
  have n1 : (⟨.S, T.B, T.a⟩ : Tv).nm = .S := by unfold Tv.nm; split <;> rfl
  obtain ⟨o, s, r, no, ho, hs, ha⟩ := VlL.less sm (B := T.B) (a := T.a) (fun _ z => z) (fun z => z) (t := .S) (Ty.le_S _) n1 h
  rw [n1] at r
  have e0 := RwL.s_o _ r
  subst e0
  exact ⟨s, r, hs, ha⟩
/-- what a def hands back, seen from the caller -/
theorem Vl.back {K : PySem.W.Frag} {H1 H' : Hp} {d : D} {v : V} {t : Ty} {o s s' : List Addr} (sm : Same H₀ Hb) (e1 : Same Hb H1)
    (hs : ∀ b ∈ s, New K Hb b ∨ ∃ i p, nd[i]? = some p ∧ (b ∈ p.2 ∨ (i ∈ T.B ∧ b ∈ p.1))) (ha : T.a = false → ∀ b ∈ s, New K H₀ b)
    (r : Rw K H' d t v o s') (no : o.Nodup) (ho : ∀ b ∈ o, New K H1 b ∧ b ∉ s') (hs' : ∀ b ∈ s', New K H1 b ∨ b ∈ s) :
    Vl K H₀ Hb H' nd (if t = .F then .fr else ⟨t, T.B, T.a⟩) d v := by
  by_cases c : t = .F
  · subst c
    rw [if_pos rfl]
    have e := Rw.f_s _ r
    subst e
    exact ⟨o, [], r, no, fun b z => ⟨(ho b z).1.back e1, by simp⟩, by simp, by simp⟩
  · rw [if_neg c]
    refine ⟨o, s', r, no, fun b z => ⟨(ho b z).1.back e1, (ho b z).2⟩, fun b z => ?_, fun e b z => ?_⟩
    · rcases hs' b z with q | q
      · exact .inl (q.back e1)
      · exact hs b q
    · rcases hs' b z with q | q
      · exact (q.back e1).back sm
      · exact ha e b q
end
end VS
set_option Elab.async false
set_option linter.all false
set_option maxRecDepth 100000
namespace VS
open PySem PySem.Spec L2
open PyProof.Rows hiding St
def WPO (X : Cx) (p : Option Expr) : TO := fun σ H Q => ∀ (pins : List (Addr × Obj)) (s : Shared), Inv X pins σ H s → wpAny (model X.prog X.w) X.A (evalPart p X.env) (fun u s' => ∃ o H', Inv X pins σ H' s' ∧ IsPart u o ∧ Q o H') X.xe s
def WQ (X : Cx) (ifs : List Expr) : TT := fun σ H Q => ∀ (pins : List (Addr × Obj)) (s : Shared), Inv X pins σ H s →
  wpAny (model X.prog X.w) X.A (forIn ifs true fun c r => if r = true then do let ok ← isTrue c X.env (eval c X.env); pure (ForInStep.yield ok) else pure (ForInStep.yield r)) (TP X pins σ Q) X.xe s
theorem po_w {X : Cx} {p : Option Expr} : PO X p (WPO X p) := ⟨fun pins s _ _ _ I h => h pins s I⟩
theorem pq_w {X : Cx} {p : List Expr} : PTs X p (WQ X p) := ⟨fun pins s _ _ _ I h => h pins s I⟩
theorem WPO.of {X : Cx} {p : Option Expr} {t : TO} {σ : St} {H : Hp} {Q : Option Int → Hp → Prop} (h : PO X p t) (q : t σ H Q) : WPO X p σ H Q := fun pins s I => h.run pins s σ H Q I q
theorem WQ.of {X : Cx} {p : List Expr} {t : TT} {σ : St} {H : Hp} {Q : Bool → Hp → Prop} (h : PTs X p t) (q : t σ H Q) : WQ X p σ H Q := fun pins s I => h.run pins s σ H Q I q
structure At (C : Ctx) (S : Scp) (X : Cx) (H₀ : Hp) (τ : Tys) (δ : Sl) (σ : St) (nd : List (List Addr × List Addr)) (H : Hp) : Prop where
  G : Gd C S X
  sv : SV X.K H₀ H τ δ σ nd
section
variable {C : Ctx} {S : Scp} {X : Cx} {H₀ H H1 : Hp} {τ : Tys} {δ : Sl} {σ : St} {nd : List (List Addr × List Addr)}
theorem At.grow (h : At C S X H₀ τ δ σ nd H) (e : Same H H1) (kf : KF X.K H1) : At C S X H₀ τ δ σ nd H1 := ⟨h.G, h.sv.grow e kf⟩
/-- what a loop or a comprehension walks -/
structure Itk (K : PySem.W.Frag) (J : It) (vs : List V) (St : Hp → Prop) : Prop where
  go : ∀ i H, St H → i < vs.length → J.go i H
  stop : ∀ H, St H → J.stop vs.length H
  yld : ∀ i H x H', St H → J.yld i H x H' → i < vs.length → H' = H ∧ vs[i]? = some x
/-- where the walked thing stands: no list, or the list at a -/
def StdOk (K : PySem.W.Frag) (St : Hp → Prop) (w : Option Addr) : Prop := (∀ H H', Same H H' → St H → St H') ∧
  ∀ H a u, (∃ o, H a = some o ∧ Mut (some o)) → (w = some a → False) → St H → St (upd H a u)
end
/-- the soundness of a tree -/
structure Snd (C : Ctx) (e : E) : Prop where
  hE : ∀ {S X H₀ τ δ σ nd H}, At C S X H₀ τ δ σ nd H → ∀ (p : Expr), ck C.nb e S false p = true → ∀ T, ty e τ = some T → ∀ Q : VK,
    FinG X σ H (ev e δ) (fun d H' => ∀ v, Vl X.K H₀ H H' nd T d v → Q v H') → WE X p σ H Q
  hT : ∀ {S X H₀ τ δ σ nd H}, At C S X H₀ τ δ σ nd H → ∀ (p : Expr), ck C.nb e S false p = true → ∀ T, ty e τ = some T → ∀ Q : Bool → Hp → Prop,
    FinG X σ H (ev e δ >>= boolD) (fun b H' => Q b H') → WT X p σ H Q
  hW : ∀ {S X H₀ τ δ σ nd H}, At C S X H₀ τ δ σ nd H → ∀ (p : Expr), ck C.nb e S false p = true → (∃ op vs pos, p = .BoolOp op vs pos) → ∀ T, ty e τ = some T → ∀ Q : Bool → Hp → Prop,
    FinG X σ H (ev e δ >>= boolD) (fun b H' => Q b H') → WW X p σ H Q
  hA : ∀ {S X H₀ τ δ σ nd H}, At C S X H₀ τ δ σ nd H → ∀ (ps : List Expr), cks C.nb e S ps = true → ∀ T, tys e τ = some T → ∀ Q : List V → Hp → Prop,
    FinG X σ H (evl e δ) (fun ds H' => ∀ vs, VlL X.K H₀ H H' nd T ds vs → Q vs H') → WA X ps σ H Q
  hI : ∀ {S X H₀ τ δ σ nd H}, At C S X H₀ τ δ σ nd H → ∀ (tg p : Expr), ck C.nb e S true p = true → ∀ T, ty e τ = some T → ∀ R : It → Hp → Prop,
    FinG X σ H (ev e δ >>= iterD) (fun xs H' => ∀ J vs St w, Itk X.K J vs St → St H' → StdOk X.K St w → vs.length ≤ sizeLine → (∀ a, w = some a → Old X.K H' a ∧ (New X.K H a ∨ ∃ i p, nd[i]? = some p ∧ (a ∈ p.2 ∨ (i ∈ T.B ∧ a ∈ p.1)))) → VlL X.K H₀ H H' nd ⟨.S, T.B, T.a⟩ xs vs → R J H') → WI X tg p σ H R
  hO : ∀ {S X H₀ τ δ σ nd H}, At C S X H₀ τ δ σ nd H → ∀ (p : Option Expr), cko C.nb e S p = true → tyo e τ = some () →
    ∀ Q : Option Int → Hp → Prop, FinG X σ H (evo e δ) (fun l H' => Q l H') → WPO X p σ H Q
  hC : ∀ {S X H₀ τ δ σ nd H}, At C S X H₀ τ δ σ nd H → ∀ (ps : List Expr), ckc C.nb e S ps = true → tyc e τ = some () →
    ∀ Q : Bool → Hp → Prop, FinG X σ H (evc e δ) (fun b H' => Q b H') → WQ X ps σ H Q
section
variable {C : Ctx} {e : E} {S : Scp} {X : Cx} {H₀ H H1 : Hp} {τ : Tys} {δ : Sl} {σ : St} {nd : List (List Addr × List Addr)}
theorem FinG.boolE {r : R D} {Q : Bool → Hp → Prop} (h : FinG X σ H (r >>= boolD) fun b H' => Q b H') {T : Tv} :
    FinG X σ H r fun d H' => ∀ v, Vl X.K H₀ H H' nd T d v → ∃ c, v = .bl c ∧ Q c H' := by
  refine h.bind.imp fun d H' e kf h v vl => ?_
  cases d with
  | bool b =>
    obtain ⟨_, _, _, r⟩ := vl.rw
    rw [rw_bl] at r
    exact ⟨b, r.1, h.ok kf⟩
  | _ => exact False.elim h
/-- a test by its value -/
theorem wt_val (hE : ∀ Q : VK, FinG X σ H (ev e δ) (fun d H' => ∀ v, Vl X.K H₀ H H' nd T d v → Q v H') → WE X p σ H Q) {Q : Bool → Hp → Prop} (h : FinG X σ H (ev e δ >>= boolD) fun b H' => Q b H')
    (he : ∀ whole, isTrue p X.env whole = (do let v ← whole; standAt p.pos; holding [v] (truthy v)) := by intro _; rfl) : WT X p σ H Q :=
  WT.of (pt_val pe_w he) (hE _ h.boolE)
/-- the walk over a value -/
theorem wi_val (hE : ∀ Q : VK, FinG X σ H (ev e δ) (fun d H' => ∀ v, Vl X.K H₀ H H' nd T d v → Q v H') → WE X p σ H Q) (sm : Same H₀ H) (kf0 : KF X.K H) {tg : Expr} {R : It → Hp → Prop}
    (hold : ∀ (i : Nat) (q : List Addr × List Addr), nd[i]? = some q → ∀ b, b ∈ q.1 ∨ b ∈ q.2 → Old X.K H b)
    (h : FinG X σ H (ev e δ >>= iterD) (fun xs H' => ∀ J vs St w, Itk X.K J vs St → St H' → StdOk X.K St w → vs.length ≤ sizeLine → (∀ a, w = some a → Old X.K H' a ∧ (New X.K H a ∨ ∃ i p, nd[i]? = some p ∧ (a ∈ p.2 ∨ (i ∈ T.B ∧ a ∈ p.1)))) → VlL X.K H₀ H H' nd ⟨.S, T.B, T.a⟩ xs vs → R J H')) : WI X tg p σ H R := by
  have h2 := h.bind
  -- by the value
  cases q : ev e δ with
  | no => rw [q] at h2; exact False.elim h2
  | ex x =>
    refine WI.of (pi_list (pe_w (X := X) (e := p))) (hE _ ?_)
    rw [q]; rw [q] at h2
    exact h2
  | ok d =>
    rw [q] at h2
    have n1 : (⟨.S, T.B, T.a⟩ : Tv).nm = .S := by unfold Tv.nm; split <;> rfl
    cases d with
    | list ds =>
      refine WI.of (pi_list (pe_w (X := X) (e := p))) (hE _ ?_)
      rw [q]
      intro H' e1 kf v vl
      have h3 := (h2 H' e1 kf).ok kf
      obtain ⟨a, vs, rfl, hl, hw⟩ := vl.items sm
      refine ⟨a, rfl, ⟨vs, hl⟩, ?_⟩
      refine h3 (Itl X.K a) vs (fun H => SqL X.K H a vs) (some a) ⟨fun i H s hi => ⟨vs, vs[i], s, by simp [hi]⟩, fun H s => ⟨vs, s, Nat.le_refl _⟩, fun i H x H' s y hi => ⟨y.1, y.2 vs s⟩⟩ hl ⟨fun H H' e s => e.seq s, fun H b u ⟨o, ho, mu⟩ hb s => ?_⟩ (kf.2 a vs (.inl hl)) (fun b hb => ?_) ?_
      · rcases s with (s | ⟨ob, s⟩) | s
        · exact .inl (.inl ((upd_ne fun z => hb (by rw [z])).trans s))
        · exact .inl (.inr ⟨ob, (upd_ne fun z => hb (by rw [z])).trans s⟩)
        · exact .inr s
      · cases hb
        obtain ⟨o, s, r, no, ho, hs, ha⟩ := vl
        rw [rw_lst] at r
        obtain ⟨a', vs', o', s', e2, hl2, hr, n⟩ := r
        cases e2
        refine ⟨hl2.old, ?_⟩
        rcases n.mem.mpr (.inl rfl) with z | z
        · exact .inl (ho _ z).1
        · exact hs _ z
      · exact VlL.less (T := ⟨T.nm.el, T.B, T.a⟩) sm (fun _ z => z) (fun z => z) (Ty.le_S _) n1 hw
    | tuple ds =>
      refine WI.of (pi_tup (pe_w (X := X) (e := p))) (hE _ ?_)
      rw [q]
      intro H' e1 kf v vl
      have h3 := (h2 H' e1 kf).ok kf
      obtain ⟨a, vs, rfl, hl, hw⟩ := vl.itemsT sm
      refine ⟨a, rfl, ⟨vs, hl⟩, ?_⟩
      refine h3 (Itt X.K a) vs (fun H => SqT X.K H a vs) none ⟨fun i H s hi => ⟨vs, vs[i], s, by simp [hi]⟩, fun H s => ⟨vs, s, Nat.le_refl _⟩, fun i H x H' s y hi => ⟨y.1, y.2 vs s⟩⟩ hl ⟨fun H H' e s => sqt_same e s, fun H b u ⟨o, ho, mu⟩ hb s => ?_⟩ (kf.2 a vs (.inr hl)) (fun b hb => nomatch hb) ?_
      · have ne : ∀ ob : HO, H a = some ob → (ob = .tup vs ∨ ∃ z, ob = .frz z (.tup vs)) → a ≠ b := fun ob e1 e2 e3 => by
          subst e3
          rw [ho] at e1
          cases e1
          rcases e2 with rfl | ⟨z, rfl⟩ <;> exact mu
        rcases s with (s | ⟨ob, s⟩) | s
        · exact .inl (.inl ((upd_ne (ne _ s (.inl rfl))).trans s))
        · exact .inl (.inr ⟨ob, (upd_ne (ne _ s (.inr ⟨_, rfl⟩))).trans s⟩)
        · exact .inr s
      · exact VlL.less (T := ⟨T.nm.tu, T.B, T.a⟩) sm (fun _ z => z) (fun z => z) (Ty.le_S _) n1 hw
    | _ =>
      exact False.elim (h2 H (Same.refl H) kf0)
theorem Snd.of (hE : ∀ {S X H₀ τ δ σ nd H}, At C S X H₀ τ δ σ nd H → ∀ (p : Expr), ck C.nb e S false p = true → ∀ T, ty e τ = some T → ∀ Q : VK, FinG X σ H (ev e δ) (fun d H' => ∀ v, Vl X.K H₀ H H' nd T d v → Q v H') → WE X p σ H Q)
    (hT : ∀ {S X H₀ τ δ σ nd H}, At C S X H₀ τ δ σ nd H → ∀ (p : Expr), ck C.nb e S false p = true → ∀ T, ty e τ = some T → ∀ Q : Bool → Hp → Prop, FinG X σ H (ev e δ >>= boolD) (fun b H' => Q b H') → WT X p σ H Q)
    (hW : ∀ {S X H₀ τ δ σ nd H}, At C S X H₀ τ δ σ nd H → ∀ (p : Expr), ck C.nb e S false p = true → (∃ op vs pos, p = .BoolOp op vs pos) → ∀ T, ty e τ = some T → ∀ Q : Bool → Hp → Prop, FinG X σ H (ev e δ >>= boolD) (fun b H' => Q b H') → WW X p σ H Q)
    (hA : ∀ S ps, cks C.nb e S ps = false) (hO : ∀ S p, cko C.nb e S p = false) (hc : ∀ S p, ckc C.nb e S p = false) (hI : ∀ S p, ck C.nb e S true p = true → ck C.nb e S false p = true) : Snd C e where
  hE := hE
  hT := hT
  hW := hW
  hA := fun _ ps h => by rw [hA] at h; cases h
  hI := fun at_ tg p h T hT R h2 => wi_val (p := p) (fun Q => hE at_ p (hI _ p h) T hT Q) at_.sv.sm at_.sv.kf at_.sv.old h2
  hO := fun _ p h => by rw [hO] at h; cases h
  hC := fun _ p h => by rw [hc] at h; cases h
theorem snd_sl (i : Nat) : Snd C (.sl i) := by
  have hE : ∀ {S X H₀ τ δ σ nd H}, At C S X H₀ τ δ σ nd H → ∀ (p : Expr), ck C.nb (.sl i) S false p = true → ∀ T, ty (.sl i) τ = some T → ∀ Q : VK, FinG X σ H (ev (.sl i) δ) (fun d H' => ∀ v, Vl X.K H₀ H H' nd T d v → Q v H') → WE X p σ H Q := by
    intro S X H₀ τ δ σ nd H at_ p hc T hT Q h
    cases p with
    | Name x pos =>
      have hc : visC S i x = true := hc
      obtain ⟨g1, g2, g3, g4⟩ := vis_of at_.G hc
      have h : FinG X σ H (slotD δ i) _ := h
      have hT : (match τ[i]? with
        | some (some (t, a)) => some (⟨.S, if t = .S then [] else [i], a⟩ : Tv)
        | _ => none) = some T := hT
      unfold slotD at h
      split at h
      · rename_i d hd
        split at hT
        · rename_i t a ht
          cases hT
          obtain ⟨v, o, s, e1, e2, r, ha⟩ := at_.sv.rep i d t a hd ht
          refine WE.of (pe_var g1 g2 g3 g4) ⟨v, e1, h.ok at_.sv.kf v ?_⟩
          obtain ⟨p, q, r2, l⟩ := Rw.less d (Ty.le_S t) r
          have ep := Rw.s_o _ r2
          subst ep
          refine ⟨[], q, r2, List.nodup_nil, by simp, fun b z => ?_, fun ea b z => ?_⟩
          · rcases l.mem z with z | z
            · refine .inr ⟨i, _, e2, .inr ⟨?_, z⟩⟩
              have : t ≠ .S := by
                rintro rfl
                have := Rw.s_o _ r
                subst this
                exact nomatch z
              rw [if_neg this]; exact List.mem_singleton.mpr rfl
            · exact .inr ⟨i, _, e2, .inl z⟩
          · rcases l.mem z with z | z
            · exact (at_.sv.own i _ e2 b z).1
            · exact ha ea b z
        · cases hT
      · exact False.elim h
    | _ => exact absurd hc (by simp [ck])
  refine Snd.of hE ?_ ?_ (fun _ _ => by simp [cks]) (fun _ _ => by simp [cko]) (fun _ _ => by simp [ckc]) (fun _ p h => by cases p <;> simp [ck] at h ⊢; exact h)
  · intro S X H₀ τ δ σ nd H at_ p hc T hT Q h
    cases p with
    | Name x pos => exact wt_val (fun Q => hE at_ _ hc T hT Q) h
    | _ => exact absurd hc (by simp [ck])
  · rintro S X H₀ τ δ σ nd H at_ p hc ⟨op, vs, pos, rfl⟩
    exact absurd hc (by simp [ck])
theorem snd_k (c : Const) : Snd C (.k c) := by
  have hE : ∀ {S X H₀ τ δ σ nd H}, At C S X H₀ τ δ σ nd H → ∀ (p : Expr), ck C.nb (.k c) S false p = true → ∀ T, ty (.k c) τ = some T → ∀ Q : VK, FinG X σ H (ev (.k c) δ) (fun d H' => ∀ v, Vl X.K H₀ H H' nd T d v → Q v H') → WE X p σ H Q := by
    intro S X H₀ τ δ σ nd H at_ p hc T hT Q h
    cases p with
    | Constant c' k pos =>
      have hc : decide (c = c') = true := hc
      have hc := of_decide_eq_true hc
      subst hc
      have h : FinG X σ H (constD c) _ := h
      cases c with
      | none => exact WE.of pe_non (h.ok at_.sv.kf _ .non)
      | bool b => exact WE.of pe_bl (h.ok at_.sv.kf _ (.bl b))
      | int b => exact WE.of pe_int (h.ok at_.sv.kf _ (.int b))
      | str b => exact WE.of pe_str (h.ok at_.sv.kf _ (.str b))
      | _ => exact False.elim h
    | _ => exact absurd hc (by simp [ck])
  refine Snd.of hE ?_ ?_ (fun _ _ => by simp [cks]) (fun _ _ => by simp [cko]) (fun _ _ => by simp [ckc]) (fun _ p h => by cases p <;> simp [ck] at h ⊢; exact h)
  · intro S X H₀ τ δ σ nd H at_ p hc T hT Q h
    cases p with
    | Constant x k pos => exact wt_val (fun Q => hE at_ _ hc T hT Q) h
    | _ => exact absurd hc (by simp [ck])
  · rintro S X H₀ τ δ σ nd H at_ p hc ⟨op, vs, pos, rfl⟩
    exact absurd hc (by simp [ck])
end
end VS
set_option Elab.async false
set_option linter.all false
set_option maxRecDepth 100000
namespace VS
open PySem PySem.Spec L2
open PyProof.Rows hiding St
section
variable {C : Ctx}
theorem snd_gl {x : Str} {d : D} (hg : GlV C x d) : Snd C (.gl x d) := by
  have hE : ∀ {S X H₀ τ δ σ nd H}, At C S X H₀ τ δ σ nd H → ∀ (p : Expr), ck C.nb (.gl x d) S false p = true → ∀ T, ty (.gl x d) τ = some T → ∀ Q : VK, FinG X σ H (ev (.gl x d) δ) (fun d H' => ∀ v, Vl X.K H₀ H H' nd T d v → Q v H') → WE X p σ H Q := by
    intro S X H₀ τ δ σ nd H at_ p hc T hT Q h
    cases p with
    | Name y pos =>
      have hc1 : (decide (x = y) && glC S x) = true := hc
      simp only [Bool.and_eq_true, decide_eq_true_eq] at hc1
      obtain ⟨rfl, hc2⟩ := hc1
      obtain ⟨g1, g2⟩ := gl_of at_.G hc2
      obtain ⟨u, v, h1, h2, h3, h4⟩ := hg
      refine WE.of (pe_glob g1 (by rw [at_.G.mg]; exact h1) h2 g2) ?_
      have h : FinG X σ H (.ok d) _ := h
      exact h.ok at_.sv.kf v (Vl.imm (t := .S) (by rw [at_.G.K]; exact h4 H) h3)
    | _ => exact absurd hc (by simp [ck])
  refine Snd.of hE ?_ ?_ (fun _ _ => by simp [cks]) (fun _ _ => by simp [cko]) (fun _ _ => by simp [ckc]) (fun _ p h => by cases p <;> simp [ck] at h ⊢; exact h)
  · intro S X H₀ τ δ σ nd H at_ p hc T hT Q h
    cases p with
    | Name x pos =>
      exact wt_val (fun Q => hE at_ _ hc T hT Q) h
    | _ => exact absurd hc (by simp [ck])
  · rintro S X H₀ τ δ σ nd H at_ p hc ⟨op, vs, pos, rfl⟩ T hT Q h
    exact absurd hc (by simp [ck])
theorem snd_ari {op : Operator} {a b : E} (iha : Snd C a) (ihb : Snd C b) : Snd C (.ari op a b) := by
  have hE : ∀ {S X H₀ τ δ σ nd H}, At C S X H₀ τ δ σ nd H → ∀ (p : Expr), ck C.nb (.ari op a b) S false p = true → ∀ T, ty (.ari op a b) τ = some T → ∀ Q : VK, FinG X σ H (ev (.ari op a b) δ) (fun d H' => ∀ v, Vl X.K H₀ H H' nd T d v → Q v H') → WE X p σ H Q := by
    intro S X H₀ τ δ σ nd H at_ p hc T hT Q h
    cases p with
    | BinOp pa op' pb pos =>
      have hc1 : (decide (op = op') && ck C.nb a S false pa && ck C.nb b S false pb) = true := hc
      simp only [Bool.and_eq_true, decide_eq_true_eq] at hc1
      obtain ⟨⟨rfl, hca⟩, hcb⟩ := hc1
      have hT : ((ty a τ).bind fun Ta => (ty b τ).bind fun Tb => some (.fr)) = some T := hT
      obtain ⟨Ta, eTa, hT⟩ := Option.bind_eq_some_iff.mp hT
      obtain ⟨Tb, eTb, hT⟩ := Option.bind_eq_some_iff.mp hT
      cases hT
      have h : FinG X σ H (ev a δ >>= fun x => ev b δ >>= fun y => ariD op x y) _ := h
      refine WE.of (pe_op op_w pe_w pe_w) (iha.hE at_ pa hca Ta eTa _ (h.bind.imp fun dx H1 e1 kf1 h x vx => ?_))
      refine ihb.hE (at_.grow e1 kf1) pb hcb Tb eTb _ (h.bind.imp fun dy H2 e2 kf2 h y vy => ?_)
      obtain ⟨_, _, _, rx⟩ := (vx.to e2).rw
      obtain ⟨_, _, _, ry⟩ := vy.rw
      exact wo_ari kf2 rx ry h
    | _ => exact absurd hc (by simp [ck])
  refine Snd.of hE ?_ ?_ (fun _ _ => by simp [cks]) (fun _ _ => by simp [cko]) (fun _ _ => by simp [ckc]) (fun _ p h => by cases p <;> simp [ck] at h ⊢; exact h)
  · intro S X H₀ τ δ σ nd H at_ p hc T hT Q h
    cases p with
    | BinOp pa op' pb pos =>
      exact wt_val (fun Q => hE at_ _ hc T hT Q) h
    | _ => exact absurd hc (by simp [ck])
  · rintro S X H₀ τ δ σ nd H at_ p hc ⟨op, vs, pos, rfl⟩ T hT Q h
    exact absurd hc (by simp [ck])
theorem snd_cat {a b : E} (iha : Snd C a) (ihb : Snd C b) : Snd C (.cat a b) := by
  have hE : ∀ {S X H₀ τ δ σ nd H}, At C S X H₀ τ δ σ nd H → ∀ (p : Expr), ck C.nb (.cat a b) S false p = true → ∀ T, ty (.cat a b) τ = some T → ∀ Q : VK, FinG X σ H (ev (.cat a b) δ) (fun d H' => ∀ v, Vl X.K H₀ H H' nd T d v → Q v H') → WE X p σ H Q := by
    intro S X H₀ τ δ σ nd H at_ p hc T hT Q h
    cases p with
    | BinOp pa op' pb pos =>
      have hc1 : (decide (.Add = op') && ck C.nb a S false pa && ck C.nb b S false pb) = true := hc
      simp only [Bool.and_eq_true, decide_eq_true_eq] at hc1
      obtain ⟨⟨rfl, hca⟩, hcb⟩ := hc1
      have hT : ((ty a τ).bind fun Ta => (ty b τ).bind fun Tb => some (catT Ta Tb)) = some T := hT
      obtain ⟨Ta, eTa, hT⟩ := Option.bind_eq_some_iff.mp hT
      obtain ⟨Tb, eTb, hT⟩ := Option.bind_eq_some_iff.mp hT
      cases hT
      have h : FinG X σ H (ev a δ >>= fun x => ev b δ >>= fun y => catD x y) _ := h
      refine WE.of (pe_op op_w pe_w pe_w) (iha.hE at_ pa hca Ta eTa _ (h.bind.imp fun dx H1 e1 kf1 h x vx => ?_))
      refine ihb.hE (at_.grow e1 kf1) pb hcb Tb eTb _ (h.bind.imp fun dy H2 e2 kf2 h y vy => ?_)
      exact wo_cat at_.sv.sm e1 e2 kf2 at_.sv.old vx vy h
    | _ => exact absurd hc (by simp [ck])
  refine Snd.of hE ?_ ?_ (fun _ _ => by simp [cks]) (fun _ _ => by simp [cko]) (fun _ _ => by simp [ckc]) (fun _ p h => by cases p <;> simp [ck] at h ⊢; exact h)
  · intro S X H₀ τ δ σ nd H at_ p hc T hT Q h
    cases p with
    | BinOp pa op' pb pos =>
      exact wt_val (fun Q => hE at_ _ hc T hT Q) h
    | _ => exact absurd hc (by simp [ck])
  · rintro S X H₀ τ δ σ nd H at_ p hc ⟨op, vs, pos, rfl⟩ T hT Q h
    exact absurd hc (by simp [ck])
theorem snd_rep {a b : E} (iha : Snd C a) (ihb : Snd C b) : Snd C (.rep a b) := by
  have hE : ∀ {S X H₀ τ δ σ nd H}, At C S X H₀ τ δ σ nd H → ∀ (p : Expr), ck C.nb (.rep a b) S false p = true → ∀ T, ty (.rep a b) τ = some T → ∀ Q : VK, FinG X σ H (ev (.rep a b) δ) (fun d H' => ∀ v, Vl X.K H₀ H H' nd T d v → Q v H') → WE X p σ H Q := by
    intro S X H₀ τ δ σ nd H at_ p hc T hT Q h
    cases p with
    | BinOp pa op' pb pos =>
      have hc1 : (decide (.Mult = op') && ck C.nb a S false pa && ck C.nb b S false pb) = true := hc
      simp only [Bool.and_eq_true, decide_eq_true_eq] at hc1
      obtain ⟨⟨rfl, hca⟩, hcb⟩ := hc1
      have hT : ((ty a τ).bind fun Ta => (ty b τ).bind fun Tb => if Ta.t = .S then none else some (⟨.L .S, Ta.B, Ta.a⟩ : Tv)) = some T := hT
      obtain ⟨Ta, ea, hT⟩ := Option.bind_eq_some_iff.mp hT
      obtain ⟨Tb, eb, hT⟩ := Option.bind_eq_some_iff.mp hT
      by_cases ct : Ta.t = .S
      · rw [if_pos ct] at hT; cases hT
      rw [if_neg ct] at hT
      cases hT
      have h : FinG X σ H (ev a δ >>= fun x => ev b δ >>= fun y => repD x y) _ := h
      refine WE.of (pe_op op_w pe_w pe_w) (iha.hE at_ pa hca Ta ea _ (h.bind.imp fun dx H1 e1 kf1 h x vx => ?_))
      refine ihb.hE (at_.grow e1 kf1) pb hcb Tb eb _ (h.bind.imp fun dy H2 e2 kf2 h y vy => ?_)
      obtain ⟨_, _, _, ry⟩ := vy.rw
      exact wo_rep at_.sv.sm (e1.trans e2) kf2 at_.sv.old (vx.to e2) ry ct h
    | _ => exact absurd hc (by simp [ck])
  refine Snd.of hE ?_ ?_ (fun _ _ => by simp [cks]) (fun _ _ => by simp [cko]) (fun _ _ => by simp [ckc]) (fun _ p h => by cases p <;> simp [ck] at h ⊢; exact h)
  · intro S X H₀ τ δ σ nd H at_ p hc T hT Q h
    cases p with
    | BinOp pa op' pb pos =>
      exact wt_val (fun Q => hE at_ _ hc T hT Q) h
    | _ => exact absurd hc (by simp [ck])
  · rintro S X H₀ τ δ σ nd H at_ p hc ⟨op, vs, pos, rfl⟩ T hT Q h
    exact absurd hc (by simp [ck])
theorem snd_neg {a : E} (iha : Snd C a) : Snd C (.neg a) := by
  have hE : ∀ {S X H₀ τ δ σ nd H}, At C S X H₀ τ δ σ nd H → ∀ (p : Expr), ck C.nb (.neg a) S false p = true → ∀ T, ty (.neg a) τ = some T → ∀ Q : VK, FinG X σ H (ev (.neg a) δ) (fun d H' => ∀ v, Vl X.K H₀ H H' nd T d v → Q v H') → WE X p σ H Q := by
    intro S X H₀ τ δ σ nd H at_ p hc T hT Q h
    cases p with
    | UnaryOp op pa pos =>
      have hc1 : (decide (op = .USub) && ck C.nb a S false pa) = true := hc
      simp only [Bool.and_eq_true, decide_eq_true_eq] at hc1
      obtain ⟨rfl, hca⟩ := hc1
      have hT : ((ty a τ).bind fun Ta => some (Tv.fr)) = some T := hT
      obtain ⟨Ta, eTa, hT⟩ := Option.bind_eq_some_iff.mp hT
      cases hT
      have h : FinG X σ H (ev a δ >>= negD) _ := h
      refine WE.of (pe_un un_neg pe_w) (iha.hE at_ pa hca Ta eTa _ (h.bind.imp fun dx H1 e1 kf1 h x vx => ?_))
      obtain ⟨_, _, _, rx⟩ := vx.rw
      cases dx with
      | int i =>
        rw [rw_int] at rx
        exact ⟨i, rx.1, FinG.ok (σ := σ) h kf1 _ (.int _)⟩
      | _ => exact False.elim h
    | _ => exact absurd hc (by simp [ck])
  refine Snd.of hE ?_ ?_ (fun _ _ => by simp [cks]) (fun _ _ => by simp [cko]) (fun _ _ => by simp [ckc]) (fun _ p h => by cases p <;> simp [ck] at h ⊢; exact h)
  · intro S X H₀ τ δ σ nd H at_ p hc T hT Q h
    cases p with
    | UnaryOp op pa pos =>
      have hc1 : (decide (op = .USub) && ck C.nb a S false pa) = true := hc
      simp only [Bool.and_eq_true, decide_eq_true_eq] at hc1
      obtain ⟨rfl, hca⟩ := hc1
      exact wt_val (fun Q => hE at_ _ hc T hT Q) h
    | _ => exact absurd hc (by simp [ck])
  · rintro S X H₀ τ δ σ nd H at_ p hc ⟨op, vs, pos, rfl⟩ T hT Q h
    exact absurd hc (by simp [ck])
theorem snd_not {a : E} (iha : Snd C a) : Snd C (.not a) := by
  have hE : ∀ {S X H₀ τ δ σ nd H}, At C S X H₀ τ δ σ nd H → ∀ (p : Expr), ck C.nb (.not a) S false p = true → ∀ T, ty (.not a) τ = some T → ∀ Q : VK, FinG X σ H (ev (.not a) δ) (fun d H' => ∀ v, Vl X.K H₀ H H' nd T d v → Q v H') → WE X p σ H Q := by
    intro S X H₀ τ δ σ nd H at_ p hc T hT Q h
    cases p with
    | UnaryOp op pa pos =>
      have hc1 : (decide (op = .Not) && ck C.nb a S false pa) = true := hc
      simp only [Bool.and_eq_true, decide_eq_true_eq] at hc1
      obtain ⟨rfl, hca⟩ := hc1
      have hT : ((ty a τ).bind fun Ta => some (Tv.fr)) = some T := hT
      obtain ⟨Ta, eTa, hT⟩ := Option.bind_eq_some_iff.mp hT
      cases hT
      have h : FinG X σ H ((ev a δ >>= boolD) >>= fun b => .ok (PyData.bool (!b))) (fun d H' => ∀ v, Vl X.K H₀ H H' nd Tv.fr d v → Q v H') := h
      exact WE.of (pe_not pe_w) (iha.hE at_ pa hca Ta eTa _ (FinG.boolE (h.bind.imp fun c H1 e1 kf1 h => FinG.ok (σ := σ) h kf1 _ (.bl _))))
    | _ => exact absurd hc (by simp [ck])
  refine Snd.of hE ?_ ?_ (fun _ _ => by simp [cks]) (fun _ _ => by simp [cko]) (fun _ _ => by simp [ckc]) (fun _ p h => by cases p <;> simp [ck] at h ⊢; exact h)
  · intro S X H₀ τ δ σ nd H at_ p hc T hT Q h
    cases p with
    | UnaryOp op pa pos =>
      have hc1 : (decide (op = .Not) && ck C.nb a S false pa) = true := hc
      simp only [Bool.and_eq_true, decide_eq_true_eq] at hc1
      obtain ⟨rfl, hca⟩ := hc1
      have hT : ((ty a τ).bind fun Ta => some (Tv.fr)) = some T := hT
      obtain ⟨Ta, eTa, hT⟩ := Option.bind_eq_some_iff.mp hT
      cases hT
      have h : FinG X σ H (((ev a δ >>= boolD) >>= fun b => .ok (PyData.bool (!b))) >>= boolD) (fun b H' => Q b H') := h
      refine WT.of (pt_not pt_w) (iha.hT at_ pa hca Ta eTa _ ?_)
      exact h.bind.bind.imp fun c H1 e1 kf1 h => FinG.ok (σ := σ) (FinG.ok (σ := σ) h kf1) kf1
    | _ => exact absurd hc (by simp [ck])
  · rintro S X H₀ τ δ σ nd H at_ p hc ⟨op, vs, pos, rfl⟩ T hT Q h
    exact absurd hc (by simp [ck])
theorem snd_and {a b : E} (iha : Snd C a) (ihb : Snd C b) : Snd C (.and a b) := by
  have hE : ∀ {S X H₀ τ δ σ nd H}, At C S X H₀ τ δ σ nd H → ∀ (p : Expr), ck C.nb (.and a b) S false p = true → ∀ T, ty (.and a b) τ = some T → ∀ Q : VK, FinG X σ H (ev (.and a b) δ) (fun d H' => ∀ v, Vl X.K H₀ H H' nd T d v → Q v H') → WE X p σ H Q := by
    intro S X H₀ τ δ σ nd H at_ p hc T hT Q h
    cases p with
    | BoolOp op vs pos =>
      cases vs with
      | nil => exact absurd hc (by simp [ck])
      | cons pa vs =>
        cases vs with
        | nil => exact absurd hc (by simp [ck])
        | cons pb r =>
          have hc1 : (decide (op = .And) && ck C.nb a S false pa && ck C.nb b S false (.BoolOp .And (pb :: r) pos) && isAnd b) = true := hc
          simp only [Bool.and_eq_true, decide_eq_true_eq] at hc1
          obtain ⟨⟨⟨rfl, hca⟩, hcb⟩, _⟩ := hc1
          have hT : ((ty a τ).bind fun Ta => (ty b τ).bind fun Tb => some (Tv.fr)) = some T := hT
          obtain ⟨Ta, eTa, hT⟩ := Option.bind_eq_some_iff.mp hT
          obtain ⟨Tb, eTb, hT⟩ := Option.bind_eq_some_iff.mp hT
          cases hT
          have h : FinG X σ H ((ev a δ >>= boolD) >>= fun c => match c with | true => ev b δ >>= boolD >>= fun c => .ok (PyData.bool c) | false => .ok (PyData.bool false)) (fun d H' => ∀ v, Vl X.K H₀ H H' nd Tv.fr d v → Q v H') := h
          refine WE.of (pe_and pe_w pe_w) (iha.hE at_ pa hca Ta eTa _ (FinG.boolE (h.bind.imp fun c H1 e1 kf1 h => ?_)))
          cases c with
          | false =>
            rw [if_neg Bool.false_ne_true]
            exact FinG.ok (σ := σ) h kf1 _ (.bl _)
          | true =>
            rw [if_pos rfl]
            have h : FinG X σ H1 ((ev b δ >>= boolD) >>= fun c => .ok (PyData.bool c)) (fun d H' => ∀ v, Vl X.K H₀ H H' nd Tv.fr d v → Q v H') := h
            exact ihb.hE (at_.grow e1 kf1) _ hcb Tb eTb _ (FinG.imp (FinG.boolE (T := Tb) (h.bind.imp fun c H2 e2 kf2 h => h)) fun d H2 e2 kf2 h v vl => by
              obtain ⟨c, rfl, h⟩ := h v vl
              exact FinG.ok (σ := σ) h kf2 _ (.bl _))
    | _ => exact absurd hc (by simp [ck])
  have hW : ∀ {S X H₀ τ δ σ nd H}, At C S X H₀ τ δ σ nd H → ∀ (p : Expr), ck C.nb (.and a b) S false p = true → ∀ T, ty (.and a b) τ = some T → ∀ Q : Bool → Hp → Prop, FinG X σ H (ev (.and a b) δ >>= boolD) (fun b H' => Q b H') → WW X p σ H Q := by
    intro S X H₀ τ δ σ nd H at_ p hc T hT Q h
    cases p with
    | BoolOp op vs pos =>
      cases vs with
      | nil => exact absurd hc (by simp [ck])
      | cons pa vs =>
        cases vs with
        | nil => exact absurd hc (by simp [ck])
        | cons pb r =>
          have hc1 : (decide (op = .And) && ck C.nb a S false pa && ck C.nb b S false (.BoolOp .And (pb :: r) pos) && isAnd b) = true := hc
          simp only [Bool.and_eq_true, decide_eq_true_eq] at hc1
          obtain ⟨⟨⟨rfl, hca⟩, hcb⟩, _⟩ := hc1
          have hT : ((ty a τ).bind fun Ta => (ty b τ).bind fun Tb => some (Tv.fr)) = some T := hT
          obtain ⟨Ta, eTa, hT⟩ := Option.bind_eq_some_iff.mp hT
          obtain ⟨Tb, eTb, hT⟩ := Option.bind_eq_some_iff.mp hT
          cases hT
          have h : FinG X σ H (((ev a δ >>= boolD) >>= fun c => match c with | true => ev b δ >>= boolD >>= fun c => .ok (PyData.bool c) | false => .ok (PyData.bool false)) >>= boolD) (fun b H' => Q b H') := h
          have h := h.bind
          refine WW.of (pw_and pt_w pw_w) (iha.hT at_ pa hca Ta eTa _ (h.bind.imp fun c H1 e1 kf1 h => ?_))
          cases c with
          | false =>
            rw [if_neg Bool.false_ne_true]
            exact FinG.ok (σ := σ) (FinG.ok (σ := σ) h kf1) kf1
          | true =>
            rw [if_pos rfl]
            have h : FinG X σ H1 ((ev b δ >>= boolD) >>= fun c => .ok (PyData.bool c)) (fun d H' => FinG X σ H' (boolD d) fun b H' => Q b H') := h
            exact ihb.hW (at_.grow e1 kf1) _ hcb ⟨_, _, _, rfl⟩ Tb eTb _ (h.bind.imp fun c H2 e2 kf2 h => FinG.ok (σ := σ) (FinG.ok (σ := σ) h kf2) kf2)
    | _ => exact absurd hc (by simp [ck])
  exact Snd.of hE (fun at_ p hc T hT Q h => fun pins s I => hW at_ p hc T hT Q h _ pins s I) (fun at_ p hc _ T hT Q h => hW at_ p hc T hT Q h) (fun _ _ => by simp [cks]) (fun _ _ => by simp [cko]) (fun _ _ => by simp [ckc]) (fun _ p h => by
    cases p with
    | BoolOp op vs pos => rcases vs with _ | ⟨pa, _ | ⟨pb, r⟩⟩ <;> first | exact h | exact absurd h (by simp [ck])
    | _ => exact absurd h (by simp [ck]))
theorem snd_or {a b : E} (iha : Snd C a) (ihb : Snd C b) : Snd C (.or a b) := by
  have hE : ∀ {S X H₀ τ δ σ nd H}, At C S X H₀ τ δ σ nd H → ∀ (p : Expr), ck C.nb (.or a b) S false p = true → ∀ T, ty (.or a b) τ = some T → ∀ Q : VK, FinG X σ H (ev (.or a b) δ) (fun d H' => ∀ v, Vl X.K H₀ H H' nd T d v → Q v H') → WE X p σ H Q := by
    intro S X H₀ τ δ σ nd H at_ p hc T hT Q h
    cases p with
    | BoolOp op vs pos =>
      cases vs with
      | nil => exact absurd hc (by simp [ck])
      | cons pa vs =>
        cases vs with
        | nil => exact absurd hc (by simp [ck])
        | cons pb r =>
          have hc1 : (decide (op = .Or) && ck C.nb a S false pa && ck C.nb b S false (.BoolOp .Or (pb :: r) pos) && isOr b) = true := hc
          simp only [Bool.and_eq_true, decide_eq_true_eq] at hc1
          obtain ⟨⟨⟨rfl, hca⟩, hcb⟩, _⟩ := hc1
          have hT : ((ty a τ).bind fun Ta => (ty b τ).bind fun Tb => some (Tv.fr)) = some T := hT
          obtain ⟨Ta, eTa, hT⟩ := Option.bind_eq_some_iff.mp hT
          obtain ⟨Tb, eTb, hT⟩ := Option.bind_eq_some_iff.mp hT
          cases hT
          have h : FinG X σ H ((ev a δ >>= boolD) >>= fun c => match c with | true => .ok (PyData.bool true) | false => ev b δ >>= boolD >>= fun c => .ok (PyData.bool c)) (fun d H' => ∀ v, Vl X.K H₀ H H' nd Tv.fr d v → Q v H') := h
          refine WE.of (pe_or pe_w pe_w) (iha.hE at_ pa hca Ta eTa _ (FinG.boolE (h.bind.imp fun c H1 e1 kf1 h => ?_)))
          cases c with
          | true =>
            rw [if_pos rfl]
            exact FinG.ok (σ := σ) h kf1 _ (.bl _)
          | false =>
            rw [if_neg Bool.false_ne_true]
            have h : FinG X σ H1 ((ev b δ >>= boolD) >>= fun c => .ok (PyData.bool c)) (fun d H' => ∀ v, Vl X.K H₀ H H' nd Tv.fr d v → Q v H') := h
            exact ihb.hE (at_.grow e1 kf1) _ hcb Tb eTb _ (FinG.imp (FinG.boolE (T := Tb) (h.bind.imp fun c H2 e2 kf2 h => h)) fun d H2 e2 kf2 h v vl => by
              obtain ⟨c, rfl, h⟩ := h v vl
              exact FinG.ok (σ := σ) h kf2 _ (.bl _))
    | _ => exact absurd hc (by simp [ck])
  have hW : ∀ {S X H₀ τ δ σ nd H}, At C S X H₀ τ δ σ nd H → ∀ (p : Expr), ck C.nb (.or a b) S false p = true → ∀ T, ty (.or a b) τ = some T → ∀ Q : Bool → Hp → Prop, FinG X σ H (ev (.or a b) δ >>= boolD) (fun b H' => Q b H') → WW X p σ H Q := by
    intro S X H₀ τ δ σ nd H at_ p hc T hT Q h
    cases p with
    | BoolOp op vs pos =>
      cases vs with
      | nil => exact absurd hc (by simp [ck])
      | cons pa vs =>
        cases vs with
        | nil => exact absurd hc (by simp [ck])
        | cons pb r =>
          have hc1 : (decide (op = .Or) && ck C.nb a S false pa && ck C.nb b S false (.BoolOp .Or (pb :: r) pos) && isOr b) = true := hc
          simp only [Bool.and_eq_true, decide_eq_true_eq] at hc1
          obtain ⟨⟨⟨rfl, hca⟩, hcb⟩, _⟩ := hc1
          have hT : ((ty a τ).bind fun Ta => (ty b τ).bind fun Tb => some (Tv.fr)) = some T := hT
          obtain ⟨Ta, eTa, hT⟩ := Option.bind_eq_some_iff.mp hT
          obtain ⟨Tb, eTb, hT⟩ := Option.bind_eq_some_iff.mp hT
          cases hT
          have h : FinG X σ H (((ev a δ >>= boolD) >>= fun c => match c with | true => .ok (PyData.bool true) | false => ev b δ >>= boolD >>= fun c => .ok (PyData.bool c)) >>= boolD) (fun b H' => Q b H') := h
          have h := h.bind
          refine WW.of (pw_or pt_w pw_w) (iha.hT at_ pa hca Ta eTa _ (h.bind.imp fun c H1 e1 kf1 h => ?_))
          cases c with
          | true =>
            rw [if_pos rfl]
            exact FinG.ok (σ := σ) (FinG.ok (σ := σ) h kf1) kf1
          | false =>
            rw [if_neg Bool.false_ne_true]
            have h : FinG X σ H1 ((ev b δ >>= boolD) >>= fun c => .ok (PyData.bool c)) (fun d H' => FinG X σ H' (boolD d) fun b H' => Q b H') := h
            exact ihb.hW (at_.grow e1 kf1) _ hcb ⟨_, _, _, rfl⟩ Tb eTb _ (h.bind.imp fun c H2 e2 kf2 h => FinG.ok (σ := σ) (FinG.ok (σ := σ) h kf2) kf2)
    | _ => exact absurd hc (by simp [ck])
  exact Snd.of hE (fun at_ p hc T hT Q h => fun pins s I => hW at_ p hc T hT Q h _ pins s I) (fun at_ p hc _ T hT Q h => hW at_ p hc T hT Q h) (fun _ _ => by simp [cks]) (fun _ _ => by simp [cko]) (fun _ _ => by simp [ckc]) (fun _ p h => by
    cases p with
    | BoolOp op vs pos => rcases vs with _ | ⟨pa, _ | ⟨pb, r⟩⟩ <;> first | exact h | exact absurd h (by simp [ck])
    | _ => exact absurd h (by simp [ck]))
theorem snd_one {a : E} (iha : Snd C a) : Snd C (.one a) := by
  have hE : ∀ {S X H₀ τ δ σ nd H}, At C S X H₀ τ δ σ nd H → ∀ (p : Expr), ck C.nb (.one a) S false p = true → ∀ T, ty (.one a) τ = some T → ∀ Q : VK, FinG X σ H (ev (.one a) δ) (fun d H' => ∀ v, Vl X.K H₀ H H' nd T d v → Q v H') → WE X p σ H Q := by
    intro S X H₀ τ δ σ nd H at_ p hc T hT Q h
    cases p with
    | BoolOp op vs pos =>
      cases vs with
      | nil => exact absurd hc (by simp [ck])
      | cons pa vs =>
        cases vs with
        | cons pb r => exact absurd hc (by simp [ck])
        | nil =>
          have hca : ck C.nb a S false pa = true := hc
          have hT : ((ty a τ).bind fun Ta => some (Tv.fr)) = some T := hT
          obtain ⟨Ta, eTa, hT⟩ := Option.bind_eq_some_iff.mp hT
          cases hT
          have h : FinG X σ H ((ev a δ >>= boolD) >>= fun c => .ok (PyData.bool c)) (fun d H' => ∀ v, Vl X.K H₀ H H' nd Tv.fr d v → Q v H') := h
          refine WE.of (pe_one pe_w) (iha.hE at_ _ hca Ta eTa _ (FinG.imp (FinG.boolE (T := Ta) (h.bind.imp fun c H2 e2 kf2 h => h)) fun d H2 e2 kf2 h v vl => by
            obtain ⟨c, rfl, h⟩ := h v vl
            exact FinG.ok (σ := σ) h kf2 _ (.bl _)))
    | _ => exact absurd hc (by simp [ck])
  have hW : ∀ {S X H₀ τ δ σ nd H}, At C S X H₀ τ δ σ nd H → ∀ (p : Expr), ck C.nb (.one a) S false p = true → ∀ T, ty (.one a) τ = some T → ∀ Q : Bool → Hp → Prop, FinG X σ H (ev (.one a) δ >>= boolD) (fun b H' => Q b H') → WW X p σ H Q := by
    intro S X H₀ τ δ σ nd H at_ p hc T hT Q h
    cases p with
    | BoolOp op vs pos =>
      cases vs with
      | nil => exact absurd hc (by simp [ck])
      | cons pa vs =>
        cases vs with
        | cons pb r => exact absurd hc (by simp [ck])
        | nil =>
          have hca : ck C.nb a S false pa = true := hc
          have hT : ((ty a τ).bind fun Ta => some (Tv.fr)) = some T := hT
          obtain ⟨Ta, eTa, hT⟩ := Option.bind_eq_some_iff.mp hT
          cases hT
          have h : FinG X σ H (((ev a δ >>= boolD) >>= fun c => .ok (PyData.bool c)) >>= boolD) (fun b H' => Q b H') := h
          have h2 : WT X pa σ H Q := iha.hT at_ _ hca Ta eTa _ (h.bind.bind.imp fun c H2 e2 kf2 h => FinG.ok (σ := σ) (FinG.ok (σ := σ) h kf2) kf2)
          cases op with
          | And => exact WW.of (pw_and1 pt_w) h2
          | Or => exact WW.of (pw_or1 pt_w) h2
    | _ => exact absurd hc (by simp [ck])
  exact Snd.of hE (fun at_ p hc T hT Q h => fun pins s I => hW at_ p hc T hT Q h _ pins s I) (fun at_ p hc _ T hT Q h => hW at_ p hc T hT Q h) (fun _ _ => by simp [cks]) (fun _ _ => by simp [cko]) (fun _ _ => by simp [ckc]) (fun _ p h => by
    cases p with
    | BoolOp op vs pos => rcases vs with _ | ⟨pa, _ | ⟨pb, r⟩⟩ <;> first | exact h | exact absurd h (by simp [ck])
    | _ => exact absurd h (by simp [ck]))
theorem snd_cmp {op : CmpOp} {a b : E} (iha : Snd C a) (ihb : Snd C b) : Snd C (.cmp op a b) := by
  have hE : ∀ {S X H₀ τ δ σ nd H}, At C S X H₀ τ δ σ nd H → ∀ (p : Expr), ck C.nb (.cmp op a b) S false p = true → ∀ T, ty (.cmp op a b) τ = some T → ∀ Q : VK, FinG X σ H (ev (.cmp op a b) δ) (fun d H' => ∀ v, Vl X.K H₀ H H' nd T d v → Q v H') → WE X p σ H Q := by
    intro S X H₀ τ δ σ nd H at_ p hc T hT Q h
    cases p with
    | Compare pa ops pbs pos =>
      rcases ops with _ | ⟨op', _ | ⟨_, _⟩⟩ <;> rcases pbs with _ | ⟨pb, _ | ⟨_, _⟩⟩ <;> try (exfalso; revert hc; simp [ck]; done)
      have hc1 : (decide (op = op') && plainX pb && ck C.nb a S false pa && ck C.nb b S false pb) = true := hc
      simp only [Bool.and_eq_true, decide_eq_true_eq] at hc1
      obtain ⟨⟨⟨rfl, hp⟩, hca⟩, hcb⟩ := hc1
      have hT : ((ty a τ).bind fun Ta => (ty b τ).bind fun Tb => some (Tv.fr)) = some T := hT
      obtain ⟨Ta, eTa, hT⟩ := Option.bind_eq_some_iff.mp hT
      obtain ⟨Tb, eTb, hT⟩ := Option.bind_eq_some_iff.mp hT
      cases hT
      have h : FinG X σ H (ev a δ >>= fun x => ev b δ >>= fun y => cmpD op x y >>= fun c => .ok (PyData.bool c)) (fun d H' => ∀ v, Vl X.K H₀ H H' nd Tv.fr d v → Q v H') := h
      refine WE.of (pe_cmpR op_w pe_w pe_w (plain_marks hp)) (iha.hE at_ pa hca Ta eTa _ (h.bind.imp fun dx H1 e1 kf1 h x vx => ?_))
      refine ihb.hE (at_.grow e1 kf1) pb hcb Tb eTb _ (h.bind.imp fun dy H2 e2 kf2 h y vy => ?_)
      obtain ⟨_, _, _, rx⟩ := (vx.to e2).rw
      obtain ⟨_, _, _, ry⟩ := vy.rw
      exact wo_cmp (σ := σ) at_.G.units65 kf2 rx ry (h.bind.imp fun c H3 e3 kf3 h => FinG.ok (σ := σ) h kf3 _ (.bl _))
    | _ => exact absurd hc (by simp [ck])
  refine Snd.of hE ?_ ?_ (fun _ _ => by simp [cks]) (fun _ _ => by simp [cko]) (fun _ _ => by simp [ckc]) (fun _ p h => by
    cases p with
    | Compare pa ops pbs pos => rcases ops with _ | ⟨op', _ | ⟨_, _⟩⟩ <;> rcases pbs with _ | ⟨pb, _ | ⟨_, _⟩⟩ <;> first | exact h | exact absurd h (by simp [ck])
    | _ => exact absurd h (by simp [ck]))
  · intro S X H₀ τ δ σ nd H at_ p hc T hT Q h
    cases p with
    | Compare pa ops pbs pos =>
      rcases ops with _ | ⟨op', _ | ⟨_, _⟩⟩ <;> rcases pbs with _ | ⟨pb, _ | ⟨_, _⟩⟩ <;> try (exfalso; revert hc; simp [ck]; done)
      have hc1 : (decide (op = op') && plainX pb && ck C.nb a S false pa && ck C.nb b S false pb) = true := hc
      simp only [Bool.and_eq_true, decide_eq_true_eq] at hc1
      obtain ⟨⟨⟨rfl, hp⟩, hca⟩, hcb⟩ := hc1
      have hT : ((ty a τ).bind fun Ta => (ty b τ).bind fun Tb => some (Tv.fr)) = some T := hT
      obtain ⟨Ta, eTa, hT⟩ := Option.bind_eq_some_iff.mp hT
      obtain ⟨Tb, eTb, hT⟩ := Option.bind_eq_some_iff.mp hT
      cases hT
      have h : FinG X σ H ((ev a δ >>= fun x => ev b δ >>= fun y => cmpD op x y >>= fun c => .ok (PyData.bool c)) >>= boolD) (fun b H' => Q b H') := h
      refine WT.of (pt_cmpR op_w pe_w pe_w (plain_marks hp)) (iha.hE at_ pa hca Ta eTa _ (h.bind.bind.imp fun dx H1 e1 kf1 h x vx => ?_))
      refine ihb.hE (at_.grow e1 kf1) pb hcb Tb eTb _ (h.bind.imp fun dy H2 e2 kf2 h y vy => ?_)
      obtain ⟨_, _, _, rx⟩ := (vx.to e2).rw
      obtain ⟨_, _, _, ry⟩ := vy.rw
      exact wo_cmp (σ := σ) at_.G.units65 kf2 rx ry (h.bind.imp fun c H3 e3 kf3 h => ⟨c, rfl, FinG.ok (σ := σ) (FinG.ok (σ := σ) h kf3) kf3⟩)
    | _ => exact absurd hc (by simp [ck])
  · rintro S X H₀ τ δ σ nd H at_ p hc ⟨op, vs, pos, rfl⟩ T hT Q h
    exact absurd hc (by simp [ck])
theorem snd_chain {o1 o2 : CmpOp} {a b c : E} (iha : Snd C a) (ihb : Snd C b) (ihc : Snd C c) : Snd C (.chain o1 o2 a b c) := by
  have hE : ∀ {S X H₀ τ δ σ nd H}, At C S X H₀ τ δ σ nd H → ∀ (p : Expr), ck C.nb (.chain o1 o2 a b c) S false p = true → ∀ T, ty (.chain o1 o2 a b c) τ = some T → ∀ Q : VK, FinG X σ H (ev (.chain o1 o2 a b c) δ) (fun d H' => ∀ v, Vl X.K H₀ H H' nd T d v → Q v H') → WE X p σ H Q := by
    intro S X H₀ τ δ σ nd H at_ p hc T hT Q h
    cases p with
    | Compare pa ops pbs pos =>
      rcases ops with _ | ⟨o1', _ | ⟨o2', _ | ⟨_, _⟩⟩⟩ <;> rcases pbs with _ | ⟨pb, _ | ⟨pc, _ | ⟨_, _⟩⟩⟩ <;> try (exfalso; revert hc; simp [ck]; done)
      have hc1 : (decide (o1 = o1') && plainX pb && plainX pc && decide (o2 = o2') && ck C.nb a S false pa && ck C.nb b S false pb && ck C.nb c S false pc) = true := hc
      simp only [Bool.and_eq_true, decide_eq_true_eq] at hc1
      obtain ⟨⟨⟨⟨⟨⟨rfl, hp⟩, hp2⟩, rfl⟩, hca⟩, hcb⟩, hcc⟩ := hc1
      have hT : ((ty a τ).bind fun Ta => (ty b τ).bind fun Tb => (ty c τ).bind fun Tc => some (Tv.fr)) = some T := hT
      obtain ⟨Ta, eTa, hT⟩ := Option.bind_eq_some_iff.mp hT
      obtain ⟨Tb, eTb, hT⟩ := Option.bind_eq_some_iff.mp hT
      obtain ⟨Tc, eTc, hT⟩ := Option.bind_eq_some_iff.mp hT
      cases hT
      have hm : lastMarks [o1, o2] [pb, pc] = false := plain_marks (op := o2) hp2
      have h : FinG X σ H (ev a δ >>= fun x => ev b δ >>= fun y => cmpD o1 x y >>= fun r => match r with | true => ev c δ >>= fun z => cmpD o2 y z >>= fun r => .ok (PyData.bool r) | false => .ok (PyData.bool false)) (fun d H' => ∀ v, Vl X.K H₀ H H' nd Tv.fr d v → Q v H') := h
      refine WE.of (pe_chain op_w op_w pe_w pe_w pe_w hm) (iha.hE at_ pa hca Ta eTa _ (h.bind.imp fun dx H1 e1 kf1 h x vx => ?_))
      refine ihb.hE (at_.grow e1 kf1) pb hcb Tb eTb _ (h.bind.imp fun dy H2 e2 kf2 h y vy => ?_)
      obtain ⟨_, _, _, rx⟩ := (vx.to e2).rw
      obtain ⟨_, _, _, ry⟩ := vy.rw
      refine wo_cmp (σ := σ) at_.G.units65 kf2 rx ry (h.bind.imp fun r H3 e3 kf3 h => ⟨r, rfl, ?_⟩)
      cases r with
      | false =>
        rw [if_neg Bool.false_ne_true]
        exact FinG.ok (σ := σ) h kf3 _ (.bl _)
      | true =>
        rw [if_pos rfl]
        have h : FinG X σ H3 (ev c δ >>= fun z => cmpD o2 dy z >>= fun r => .ok (PyData.bool r)) _ := h
        refine ihc.hE (at_.grow ((e1.trans e2).trans e3) kf3) pc hcc Tc eTc _ (h.bind.imp fun dz H4 e4 kf4 h z vz => ?_)
        obtain ⟨_, _, _, ry2⟩ := (vy.to (e3.trans e4)).rw
        obtain ⟨_, _, _, rz⟩ := vz.rw
        exact wo_cmp (σ := σ) at_.G.units65 kf4 ry2 rz (h.bind.imp fun c H5 e5 kf5 h => FinG.ok (σ := σ) h kf5 _ (.bl _))
    | _ => exact absurd hc (by simp [ck])
  refine Snd.of hE ?_ ?_ (fun _ _ => by simp [cks]) (fun _ _ => by simp [cko]) (fun _ _ => by simp [ckc]) (fun _ p h => by
    cases p with
    | Compare pa ops pbs pos => rcases ops with _ | ⟨o1', _ | ⟨o2', _ | ⟨_, _⟩⟩⟩ <;> rcases pbs with _ | ⟨pb, _ | ⟨pc, _ | ⟨_, _⟩⟩⟩ <;> first | exact h | exact absurd h (by simp [ck])
    | _ => exact absurd h (by simp [ck]))
  · intro S X H₀ τ δ σ nd H at_ p hc T hT Q h
    cases p with
    | Compare pa ops pbs pos =>
      rcases ops with _ | ⟨o1', _ | ⟨o2', _ | ⟨_, _⟩⟩⟩ <;> rcases pbs with _ | ⟨pb, _ | ⟨pc, _ | ⟨_, _⟩⟩⟩ <;> try (exfalso; revert hc; simp [ck]; done)
      have hc1 : (decide (o1 = o1') && plainX pb && plainX pc && decide (o2 = o2') && ck C.nb a S false pa && ck C.nb b S false pb && ck C.nb c S false pc) = true := hc
      simp only [Bool.and_eq_true, decide_eq_true_eq] at hc1
      obtain ⟨⟨⟨⟨⟨⟨rfl, hp⟩, hp2⟩, rfl⟩, hca⟩, hcb⟩, hcc⟩ := hc1
      have hT : ((ty a τ).bind fun Ta => (ty b τ).bind fun Tb => (ty c τ).bind fun Tc => some (Tv.fr)) = some T := hT
      obtain ⟨Ta, eTa, hT⟩ := Option.bind_eq_some_iff.mp hT
      obtain ⟨Tb, eTb, hT⟩ := Option.bind_eq_some_iff.mp hT
      obtain ⟨Tc, eTc, hT⟩ := Option.bind_eq_some_iff.mp hT
      cases hT
      have hm : lastMarks [o1, o2] [pb, pc] = false := plain_marks (op := o2) hp2
      have h : FinG X σ H ((ev a δ >>= fun x => ev b δ >>= fun y => cmpD o1 x y >>= fun r => match r with | true => ev c δ >>= fun z => cmpD o2 y z >>= fun r => .ok (PyData.bool r) | false => .ok (PyData.bool false)) >>= boolD) (fun b H' => Q b H') := h
      refine WT.of (pt_chain op_w op_w pe_w pe_w pe_w hm) (iha.hE at_ pa hca Ta eTa _ (h.bind.bind.imp fun dx H1 e1 kf1 h x vx => ?_))
      refine ihb.hE (at_.grow e1 kf1) pb hcb Tb eTb _ (h.bind.imp fun dy H2 e2 kf2 h y vy => ?_)
      obtain ⟨_, _, _, rx⟩ := (vx.to e2).rw
      obtain ⟨_, _, _, ry⟩ := vy.rw
      refine wo_cmp (σ := σ) at_.G.units65 kf2 rx ry (h.bind.imp fun r H3 e3 kf3 h => ⟨r, rfl, ?_⟩)
      cases r with
      | false =>
        rw [if_neg Bool.false_ne_true]
        exact ⟨false, rfl, FinG.ok (σ := σ) (FinG.ok (σ := σ) h kf3) kf3⟩
      | true =>
        rw [if_pos rfl]
        have h : FinG X σ H3 (ev c δ >>= fun z => cmpD o2 dy z >>= fun r => .ok (PyData.bool r)) _ := h
        refine ihc.hE (at_.grow ((e1.trans e2).trans e3) kf3) pc hcc Tc eTc _ (h.bind.imp fun dz H4 e4 kf4 h z vz => ?_)
        obtain ⟨_, _, _, ry2⟩ := (vy.to (e3.trans e4)).rw
        obtain ⟨_, _, _, rz⟩ := vz.rw
        exact wo_cmp (σ := σ) at_.G.units65 kf4 ry2 rz (h.bind.imp fun c H5 e5 kf5 h => ⟨c, rfl, FinG.ok (σ := σ) (FinG.ok (σ := σ) h kf5) kf5⟩)
    | _ => exact absurd hc (by simp [ck])
  · rintro S X H₀ τ δ σ nd H at_ p hc ⟨op, vs, pos, rfl⟩ T hT Q h
    exact absurd hc (by simp [ck])
theorem snd_ife {c a b : E} (ihc : Snd C c) (iha : Snd C a) (ihb : Snd C b) : Snd C (.ife c a b) := by
  have hE : ∀ {S X H₀ τ δ σ nd H}, At C S X H₀ τ δ σ nd H → ∀ (p : Expr), ck C.nb (.ife c a b) S false p = true → ∀ T, ty (.ife c a b) τ = some T → ∀ Q : VK, FinG X σ H (ev (.ife c a b) δ) (fun d H' => ∀ v, Vl X.K H₀ H H' nd T d v → Q v H') → WE X p σ H Q := by
    intro S X H₀ τ δ σ nd H at_ p hc T hT Q h
    cases p with
    | IfExp pc pa pb pos =>
      have hc1 : (ck C.nb c S false pc && ck C.nb a S false pa && ck C.nb b S false pb) = true := hc
      simp only [Bool.and_eq_true, decide_eq_true_eq] at hc1
      obtain ⟨⟨hcc, hca⟩, hcb⟩ := hc1
      have hT : ((ty c τ).bind fun Tc => (ty a τ).bind fun Ta => (ty b τ).bind fun Tb => some (Ta.both Tb)) = some T := hT
      obtain ⟨Tc, eTc, hT⟩ := Option.bind_eq_some_iff.mp hT
      obtain ⟨Ta, eTa, hT⟩ := Option.bind_eq_some_iff.mp hT
      obtain ⟨Tb, eTb, hT⟩ := Option.bind_eq_some_iff.mp hT
      cases hT
      have h : FinG X σ H ((ev c δ >>= boolD) >>= fun r => match r with | true => ev a δ | false => ev b δ) (fun d H' => ∀ v, Vl X.K H₀ H H' nd (Ta.both Tb) d v → Q v H') := h
      refine WE.of (pe_ifExp pt_w pe_w pe_w) (ihc.hT at_ pc hcc Tc eTc _ (h.bind.imp fun r H1 e1 kf1 h => ?_))
      cases r with
      | true =>
        rw [if_pos rfl]
        refine iha.hE (at_.grow e1 kf1) pa hca Ta eTa _ (FinG.imp h fun d H2 e2 kf2 h v vl => h v ?_)
        exact Vl.less (T := ⟨Ta.nm, Ta.B, Ta.a⟩) at_.sv.sm (fun i z => List.mem_append_left _ z) (fun z => (by simpa using z : Ta.a = false ∧ Tb.a = false).1) (Ty.le_join _ _).1 (Vl.nm at_.sv.sm (vl.from e1))
      | false =>
        rw [if_neg Bool.false_ne_true]
        refine ihb.hE (at_.grow e1 kf1) pb hcb Tb eTb _ (FinG.imp h fun d H2 e2 kf2 h v vl => h v ?_)
        exact Vl.less (T := ⟨Tb.nm, Tb.B, Tb.a⟩) at_.sv.sm (fun i z => List.mem_append_right _ z) (fun z => (by simpa using z : Ta.a = false ∧ Tb.a = false).2) (Ty.le_join _ _).2 (Vl.nm at_.sv.sm (vl.from e1))
    | _ => exact absurd hc (by simp [ck])
  refine Snd.of hE ?_ ?_ (fun _ _ => by simp [cks]) (fun _ _ => by simp [cko]) (fun _ _ => by simp [ckc]) (fun _ p h => by cases p <;> simp [ck] at h ⊢; exact h)
  · intro S X H₀ τ δ σ nd H at_ p hc T hT Q h
    cases p with
    | IfExp pc pa pb pos =>
      have hc1 : (ck C.nb c S false pc && ck C.nb a S false pa && ck C.nb b S false pb) = true := hc
      simp only [Bool.and_eq_true, decide_eq_true_eq] at hc1
      obtain ⟨⟨hcc, hca⟩, hcb⟩ := hc1
      have hT : ((ty c τ).bind fun Tc => (ty a τ).bind fun Ta => (ty b τ).bind fun Tb => some (Ta.both Tb)) = some T := hT
      obtain ⟨Tc, eTc, hT⟩ := Option.bind_eq_some_iff.mp hT
      obtain ⟨Ta, eTa, hT⟩ := Option.bind_eq_some_iff.mp hT
      obtain ⟨Tb, eTb, hT⟩ := Option.bind_eq_some_iff.mp hT
      cases hT
      have h : FinG X σ H (((ev c δ >>= boolD) >>= fun r => match r with | true => ev a δ | false => ev b δ) >>= boolD) (fun b H' => Q b H') := h
      intro pins s I
      rw [R.assoc] at h
      refine isTrue_IfExp (thn (ihc.hT at_ pc hcc Tc eTc (fun r H1 => if r = true then WT X pa σ H1 Q else WT X pb σ H1 Q) (h.bind.imp fun r H1 e1 kf1 h => ?_) pins s I) fun r s1 ⟨H1, I1, q1⟩ => ?_)
      · cases r with
        | true =>
          rw [if_pos rfl]
          exact iha.hT (at_.grow e1 kf1) pa hca Ta eTa _ h
        | false =>
          rw [if_neg Bool.false_ne_true]
          exact ihb.hT (at_.grow e1 kf1) pb hcb Tb eTb _ h
      · cases r with
        | true =>
          rw [if_pos rfl] at q1
          exact q1 pins s1 I1
        | false =>
          rw [if_neg Bool.false_ne_true] at q1
          exact q1 pins s1 I1
    | _ => exact absurd hc (by simp [ck])
  · rintro S X H₀ τ δ σ nd H at_ p hc ⟨op, vs, pos, rfl⟩ T hT Q h
    exact absurd hc (by simp [ck])
end
end VS
set_option Elab.async false
set_option linter.all false
set_option maxRecDepth 100000
namespace VS
open PySem PySem.Spec L2
open PyProof.Rows hiding St
section
variable {C : Ctx}
theorem snd_tup {es : E} (ih : Snd C es) : Snd C (.tup es) := by
  have hE : ∀ {S X H₀ τ δ σ nd H}, At C S X H₀ τ δ σ nd H → ∀ (p : Expr), ck C.nb (.tup es) S false p = true → ∀ T, ty (.tup es) τ = some T → ∀ Q : VK, FinG X σ H (ev (.tup es) δ) (fun d H' => ∀ v, Vl X.K H₀ H H' nd T d v → Q v H') → WE X p σ H Q := by
    intro S X H₀ τ δ σ nd H at_ p hc T hT Q h
    cases p with
    | Tuple ps k pos =>
      have hcs : cks C.nb es S ps = true := hc
      have hT : ((tys es τ).bind fun Ts => some (if Ts.nm = .F then Tv.fr else ⟨.S, Ts.B, Ts.a⟩)) = some T := hT
      obtain ⟨Ts, eTs, hT⟩ := Option.bind_eq_some_iff.mp hT
      cases hT
      have h : FinG X σ H (evl es δ >>= fun ds => if ds.length ≤ sizeLine then .ok (PyData.tuple ds) else .no) (fun d H' => ∀ v, Vl X.K H₀ H H' nd (if Ts.nm = .F then Tv.fr else ⟨.S, Ts.B, Ts.a⟩) d v → Q v H') := h
      refine WE.kf (WE.of (pe_tup pa_w) (ih.hA at_ ps hcs Ts eTs _ (h.bind.imp fun ds H1 e1 kf1 h vs vl => ?_)))
      obtain ⟨c, h⟩ := FinG.ite h
      have len : vs.length = ds.length := by obtain ⟨_, _, z, _⟩ := vl; exact z.length
      refine ⟨by rw [len]; exact c, fun p n kf => h _ (same_upd n) kf _ (Vl.newTup at_.sv.sm n vl)⟩
    | _ => exact absurd hc (by simp [ck])
  refine Snd.of hE ?_ ?_ (fun _ _ => by simp [cks]) (fun _ _ => by simp [cko]) (fun _ _ => by simp [ckc]) (fun _ p h => by cases p <;> simp [ck] at h ⊢; exact h)
  · intro S X H₀ τ δ σ nd H at_ p hc T hT Q h
    cases p with
    | Tuple ps k pos =>
      exact wt_val (fun Q => hE at_ _ hc T hT Q) h
    | _ => exact absurd hc (by simp [ck])
  · rintro S X H₀ τ δ σ nd H at_ p hc ⟨op, vs, pos, rfl⟩ T hT Q h
    exact absurd hc (by simp [ck])
theorem snd_lst {es : E} (ih : Snd C es) : Snd C (.lst es) := by
  have hE : ∀ {S X H₀ τ δ σ nd H}, At C S X H₀ τ δ σ nd H → ∀ (p : Expr), ck C.nb (.lst es) S false p = true → ∀ T, ty (.lst es) τ = some T → ∀ Q : VK, FinG X σ H (ev (.lst es) δ) (fun d H' => ∀ v, Vl X.K H₀ H H' nd T d v → Q v H') → WE X p σ H Q := by
    intro S X H₀ τ δ σ nd H at_ p hc T hT Q h
    cases p with
    | List ps pos =>
      have hcs : cks C.nb es S ps = true := hc
      have hT : ((tys es τ).bind fun Ts => some (if Ts.nm = .F then Tv.fr else ⟨.L Ts.nm, Ts.B, Ts.a⟩)) = some T := hT
      obtain ⟨Ts, eTs, hT⟩ := Option.bind_eq_some_iff.mp hT
      cases hT
      have h : FinG X σ H (evl es δ >>= fun ds => if ds.length ≤ sizeLine then .ok (PyData.list ds) else .no) (fun d H' => ∀ v, Vl X.K H₀ H H' nd (if Ts.nm = .F then Tv.fr else ⟨.L Ts.nm, Ts.B, Ts.a⟩) d v → Q v H') := h
      refine WE.kf (WE.of (pe_lst pa_w) (ih.hA at_ ps hcs Ts eTs _ (h.bind.imp fun ds H1 e1 kf1 h vs vl => ?_)))
      obtain ⟨c, h⟩ := FinG.ite h
      have len : vs.length = ds.length := by obtain ⟨_, _, z, _⟩ := vl; exact z.length
      refine ⟨by rw [len]; exact c, fun p n kf => h _ (same_upd n) kf _ (Vl.newLst at_.sv.sm e1 n kf vl at_.sv.old)⟩
    | _ => exact absurd hc (by simp [ck])
  refine Snd.of hE ?_ ?_ (fun _ _ => by simp [cks]) (fun _ _ => by simp [cko]) (fun _ _ => by simp [ckc]) (fun _ p h => by cases p <;> simp [ck] at h ⊢; exact h)
  · intro S X H₀ τ δ σ nd H at_ p hc T hT Q h
    cases p with
    | List ps pos =>
      exact wt_val (fun Q => hE at_ _ hc T hT Q) h
    | _ => exact absurd hc (by simp [ck])
  · rintro S X H₀ τ δ σ nd H at_ p hc ⟨op, vs, pos, rfl⟩ T hT Q h
    exact absurd hc (by simp [ck])
theorem snd_nil : Snd C .nil where
  hE := fun _ p h => by simp [ck] at h
  hT := fun _ p h => by simp [ck] at h
  hW := fun _ p h => by simp [ck] at h
  hI := fun _ _ p h => by simp [ck] at h
  hO := fun _ p h => by simp [cko] at h
  hC := fun _ p h => by simp [ckc] at h
  hA := fun {S X H₀ τ δ σ nd H} at_ ps hc T hT Q h => by
    cases ps with
    | nil =>
      cases hT
      have h : FinG X σ H (.ok []) _ := h
      exact WA.of pa_nil (h.ok at_.sv.kf [] ⟨[], [], rwl_nil.mpr ⟨rfl, rfl, rfl⟩, List.nodup_nil, by simp, by simp, by simp⟩)
    | cons p ps => simp [cks] at hc
theorem snd_cons {a es : E} (iha : Snd C a) (ihs : Snd C es) : Snd C (.cons a es) where
  hE := fun _ p h => by simp [ck] at h
  hT := fun _ p h => by simp [ck] at h
  hW := fun _ p h => by simp [ck] at h
  hI := fun _ _ p h => by simp [ck] at h
  hO := fun _ p h => by simp [cko] at h
  hC := fun _ p h => by simp [ckc] at h
  hA := fun {S X H₀ τ δ σ nd H} at_ ps hc T hT Q h => by
    cases ps with
    | nil => simp [cks] at hc
    | cons p ps =>
      have hc1 : (plainX p && ck C.nb a S false p && cks C.nb es S ps) = true := hc
      simp only [Bool.and_eq_true] at hc1
      obtain ⟨⟨hp, hca⟩, hcs⟩ := hc1
      have hT : ((ty a τ).bind fun Ta => (tys es τ).bind fun Ts => some (Ta.both Ts)) = some T := hT
      obtain ⟨Ta, eTa, hT⟩ := Option.bind_eq_some_iff.mp hT
      obtain ⟨Ts, eTs, hT⟩ := Option.bind_eq_some_iff.mp hT
      cases hT
      have h : FinG X σ H (ev a δ >>= fun d => evl es δ >>= fun ds => .ok (d :: ds)) (fun ds H' => ∀ vs, VlL X.K H₀ H H' nd (Ta.both Ts) ds vs → Q vs H') := h
      refine WA.of (pa_cons pe_w pa_w (star_plain hp)) (iha.hE at_ p hca Ta eTa _ (h.bind.imp fun d H1 e1 kf1 h v vl => ?_))
      refine ihs.hA (at_.grow e1 kf1) ps hcs Ts eTs _ (h.bind.imp fun ds H2 e2 kf2 h vs vls => ?_)
      exact FinG.ok (σ := σ) h kf2 _ (VlL.cons at_.sv.sm e1 e2 at_.sv.old vl vls)
theorem snd_nop : Snd C .nop where
  hE := fun _ p h => by simp [ck] at h
  hT := fun _ p h => by simp [ck] at h
  hW := fun _ p h => by simp [ck] at h
  hI := fun _ _ p h => by simp [ck] at h
  hA := fun _ p h => by simp [cks] at h
  hO := fun {S X H₀ τ δ σ nd H} at_ p hc hT Q h => by
    cases p with
    | none =>
      have h : FinG X σ H (.ok none) _ := h
      exact WPO.of po_none (h.ok at_.sv.kf)
    | some p => simp [cko] at hc
  hC := fun {S X H₀ τ δ σ nd H} at_ ps hc hT Q h => by
    cases ps with
    | nil =>
      have h : FinG X σ H (.ok true) _ := h
      exact WQ.of pts_nil (h.ok at_.sv.kf)
    | cons p ps => simp [ckc] at hc
theorem snd_prt {a : E} (iha : Snd C a) : Snd C (.prt a) where
  hE := fun _ p h => by simp [ck] at h
  hT := fun _ p h => by simp [ck] at h
  hW := fun _ p h => by simp [ck] at h
  hI := fun _ _ p h => by simp [ck] at h
  hA := fun _ p h => by simp [cks] at h
  hO := fun {S X H₀ τ δ σ nd H} at_ p hc hT Q h => by
    cases p with
    | none => simp [cko] at hc
    | some p =>
      have hca : ck C.nb a S false p = true := hc
      have hT : ((ty a τ).bind fun _ => some ()) = some () := hT
      obtain ⟨Ta, eTa, _⟩ := Option.bind_eq_some_iff.mp hT
      have h : FinG X σ H ((ev a δ >>= intD) >>= fun j => .ok (some j)) (fun l H' => Q l H') := h
      refine WPO.of (po_some pe_w) (iha.hE at_ p hca Ta eTa _ (h.bind.bind.imp fun d H1 e1 kf1 h v vl => ?_))
      cases d with
      | int i =>
        obtain ⟨_, _, _, r⟩ := vl.rw
        rw [rw_int] at r
        exact ⟨i, r.1, FinG.ok (σ := σ) (FinG.ok (σ := σ) h kf1) kf1⟩
      | _ => exact False.elim h
  hC := fun {S X H₀ τ δ σ nd H} at_ ps hc hT Q h => by
    cases ps with
    | nil => simp [ckc] at hc
    | cons p ps => cases ps with
      | nil =>
        have hca : ck C.nb a S false p = true := hc
        have hT : ((ty a τ).bind fun _ => some ()) = some () := hT
        obtain ⟨Ta, eTa, _⟩ := Option.bind_eq_some_iff.mp hT
        exact WQ.of (pts_one pt_w) (iha.hT at_ p hca Ta eTa _ h)
      | cons _ _ => simp [ckc] at hc
theorem snd_ix {a i : E} (iha : Snd C a) (ihi : Snd C i) : Snd C (.ix a i) := by
  have hE : ∀ {S X H₀ τ δ σ nd H}, At C S X H₀ τ δ σ nd H → ∀ (p : Expr), ck C.nb (.ix a i) S false p = true → ∀ T, ty (.ix a i) τ = some T → ∀ Q : VK, FinG X σ H (ev (.ix a i) δ) (fun d H' => ∀ v, Vl X.K H₀ H H' nd T d v → Q v H') → WE X p σ H Q := by
    intro S X H₀ τ δ σ nd H at_ p hc T hT Q h
    cases p with
    | Subscript pa pi pos =>
      have hc1 : (plainX pi && ck C.nb a S false pa && ck C.nb i S false pi) = true := hc
      simp only [Bool.and_eq_true, decide_eq_true_eq] at hc1
      obtain ⟨⟨hp, hca⟩, hci⟩ := hc1
      have hT : ((ty a τ).bind fun Ta => (ty i τ).bind fun Ti => some (if Ta.nm = .F then Tv.fr else ⟨.S, Ta.B, Ta.a⟩)) = some T := hT
      obtain ⟨Ta, eTa, hT⟩ := Option.bind_eq_some_iff.mp hT
      obtain ⟨Ti, eTi, hT⟩ := Option.bind_eq_some_iff.mp hT
      cases hT
      have h : FinG X σ H (ev a δ >>= fun x => ev i δ >>= fun y => ixD x y) (fun d H' => ∀ v, Vl X.K H₀ H H' nd (if Ta.nm = .F then Tv.fr else ⟨.S, Ta.B, Ta.a⟩) d v → Q v H') := h
      refine WE.of (pe_ix ix_seq pe_w pe_w (plain_ix hp)) (iha.hE at_ pa hca Ta eTa _ (h.bind.imp fun dx H1 e1 kf1 h x vx => ?_))
      refine ihi.hE (at_.grow e1 kf1) pi hci Ti eTi _ (h.bind.imp fun dy H2 e2 kf2 h y vy => ?_)
      obtain ⟨_, _, _, ry⟩ := vy.rw
      exact we_ix at_.sv.sm kf2 (vx.to e2) ry h
    | _ => exact absurd hc (by simp [ck])
  refine Snd.of hE ?_ ?_ (fun _ _ => by simp [cks]) (fun _ _ => by simp [cko]) (fun _ _ => by simp [ckc]) (fun _ p h => by cases p <;> simp [ck] at h ⊢; exact h)
  · intro S X H₀ τ δ σ nd H at_ p hc T hT Q h
    cases p with
    | Subscript pa pi pos =>
      exact wt_val (fun Q => hE at_ _ hc T hT Q) h
    | _ => exact absurd hc (by simp [ck])
  · rintro S X H₀ τ δ σ nd H at_ p hc ⟨op, vs, pos, rfl⟩ T hT Q h
    exact absurd hc (by simp [ck])
theorem snd_slc {a lo hi : E} (iha : Snd C a) (ihl : Snd C lo) (ihh : Snd C hi) : Snd C (.slc a lo hi) := by
  have hE : ∀ {S X H₀ τ δ σ nd H}, At C S X H₀ τ δ σ nd H → ∀ (p : Expr), ck C.nb (.slc a lo hi) S false p = true → ∀ T, ty (.slc a lo hi) τ = some T → ∀ Q : VK, FinG X σ H (ev (.slc a lo hi) δ) (fun d H' => ∀ v, Vl X.K H₀ H H' nd T d v → Q v H') → WE X p σ H Q := by
    intro S X H₀ τ δ σ nd H at_ p hc T hT Q h
    cases p with
    | Subscript pa ps pos =>
      cases ps with
      | Slice pl ph pst pos2 =>
        cases pst with
        | none =>
          have hc1 : (ck C.nb a S false pa && cko C.nb lo S pl && cko C.nb hi S ph) = true := hc
          simp only [Bool.and_eq_true, decide_eq_true_eq] at hc1
          obtain ⟨⟨hca, hcl⟩, hch⟩ := hc1
          have hT : ((ty a τ).bind fun Ta => (tyo lo τ).bind fun Tl => (tyo hi τ).bind fun Th => some (if Ta.nm = .F then Tv.fr else ⟨.L Ta.nm.el, Ta.B, Ta.a⟩)) = some T := hT
          obtain ⟨Ta, eTa, hT⟩ := Option.bind_eq_some_iff.mp hT
          obtain ⟨Tl, eTl, hT⟩ := Option.bind_eq_some_iff.mp hT
          obtain ⟨Th, eTh, hT⟩ := Option.bind_eq_some_iff.mp hT
          cases hT
          have h : FinG X σ H (ev a δ >>= fun x => evo lo δ >>= fun l => evo hi δ >>= fun h => slcD x l h) (fun d H' => ∀ v, Vl X.K H₀ H H' nd (if Ta.nm = .F then Tv.fr else ⟨.L Ta.nm.el, Ta.B, Ta.a⟩) d v → Q v H') := h
          refine WE.kf (WE.of (pe_slice sl_list pe_w po_w po_w) (iha.hE at_ pa hca Ta eTa _ (h.bind.imp fun dx H1 e1 kf1 h x vx => ?_)))
          refine ihl.hO (at_.grow e1 kf1) pl hcl eTl _ (h.bind.imp fun l H2 e2 kf2 h => ?_)
          refine ihh.hO (at_.grow (e1.trans e2) kf2) ph hch eTh _ (h.bind.imp fun l2 H3 e3 kf3 h => ?_)
          exact we_slc at_.sv.sm ((e1.trans e2).trans e3) at_.sv.old (vx.to (e2.trans e3)) h
        | some _ => exact absurd hc (by simp [ck])
      | _ => exact absurd hc (by simp [ck])
    | _ => exact absurd hc (by simp [ck])
  refine Snd.of hE ?_ ?_ (fun _ _ => by simp [cks]) (fun _ _ => by simp [cko]) (fun _ _ => by simp [ckc]) (fun _ p h => by
    cases p with
    | Subscript pa ps pos => cases ps with
      | Slice pl ph pst pos2 => cases pst <;> first | exact h | exact absurd h (by simp [ck])
      | _ => exact absurd h (by simp [ck])
    | _ => exact absurd h (by simp [ck]))
  · intro S X H₀ τ δ σ nd H at_ p hc T hT Q h
    cases p with
    | Subscript pa ps pos =>
      cases ps with
      | Slice pl ph pst pos2 =>
        cases pst with
        | none =>
          exact wt_val (fun Q => hE at_ _ hc T hT Q) h
        | some _ => exact absurd hc (by simp [ck])
      | _ => exact absurd hc (by simp [ck])
    | _ => exact absurd hc (by simp [ck])
  · rintro S X H₀ τ δ σ nd H at_ p hc ⟨op, vs, pos, rfl⟩ T hT Q h
    exact absurd hc (by simp [ck])
end
end VS
set_option Elab.async false
set_option linter.all false
set_option maxRecDepth 100000
namespace VS
open PySem PySem.Spec L2
open PyProof.Rows hiding St
section
variable {C : Ctx}
theorem cks_nil {nb : List Str} : ∀ {e : E} {S : Scp} {δ : Sl}, cks nb e S [] = true → evl e δ = .ok [] := by
  intro e S δ h
  cases e <;> first | rfl | (simp [cks] at h)
theorem passes_none {X : Cx} {σ : St} : PassesAt (L2.CX X.prog X.w) X σ E0 := fun _ _ _ _ _ _ h => by
  obtain ⟨_, _, _, _, _, _, _, _, _, _, _, _, z⟩ := h
  exact z.elim
/-- a call of a def, by its promise -/
theorem we_calls {S : Scp} {X : Cx} {H₀ H : Hp} {τ : Tys} {δ : Sl} {σ : St} {nd : List (List Addr × List Addr)} {es : E} (ih : Snd C es) {x : Str} {F : List D → R D} {t : Ty} (fv : FnV C x F t)
    (at_ : At C S X H₀ τ δ σ nd H) {p pos : Pos} {ps : List Expr} (hg : glC S x = true) (hcs : cks C.nb es S ps = true) {T : Tv} (eT : tys es τ = some T) {Q : VK}
    (h : FinG X σ H (evl es δ >>= F) (fun d H' => ∀ v, Vl X.K H₀ H H' nd (if t = .F then .fr else ⟨t, T.B, T.a⟩) d v → Q v H')) : WE X (.Call (.Name x p) ps [] pos) σ H Q := by
  obtain ⟨f, fd, pn, j, hj, har, F0, hm, hk, hb⟩ := fv.ex
  have G := at_.G
  have F1 : FnOk X.prog X.w X.K X.mg X.base (L2.CX X.prog X.w) j f fd pn (spF X.K X.mg pn.length F t) := by rw [G.P, G.w, G.K, G.mg, G.base]; exact F0
  have hm1 : X.mg x = some (.ref f) := by rw [G.mg]; exact hm
  have hk1 : PySem.W.keepIn X.K (.ref f) = true := by rw [G.K]; exact hk
  have hb1 : Binds X.K fd pn [] := by rw [G.K]; exact hb
  obtain ⟨g1, g2⟩ := gl_of G hg
  have hr : Room j X.A := G.room.mono hj
  have hpl := cks_plain hcs
  cases q : evl es δ with
  | no => rw [q] at h; exact False.elim h
  | ex e =>
    refine we_call0 (E := E0) hpl F1 hr g1 g2 hm1 hk1 hb1 passes_none (ih.hA at_ ps hcs T eT _ ?_) ?_
    · rw [q]; rw [q] at h; exact h
    · rintro rfl
      rw [cks_nil hcs] at q
      cases q
  | ok ds =>
    rw [q] at h
    have h : FinG X σ H (F ds) _ := h
    cases q2 : F ds with
    | no => rw [q2] at h; exact False.elim h
    | ok d =>
      rw [q2] at h
      have har2 : ds.length = pn.length := har ds (by rw [q2]; exact nofun)
      have key : ∀ (vs : List V) (H1 : Hp), Same H H1 → KF X.K H1 → VlL X.K H₀ H H1 nd T ds vs → spF X.K X.mg pn.length F t vs H1 Q E0 := fun vs H1 e1 kf1 vl => by
        obtain ⟨s, r, hs, ha⟩ := vl.allS at_.sv.sm
        refine ⟨ds, s, har2, r, ?_⟩
        rw [q2]
        intro v H' e2 kf2 ⟨o, s', r', no, ho, hs'⟩
        exact h H' (e1.trans e2) kf2 v (Vl.back at_.sv.sm e1 hs ha r' no ho hs')
      refine we_call0 (E := E0) hpl F1 hr g1 g2 hm1 hk1 hb1 passes_none (ih.hA at_ ps hcs T eT _ ?_) ?_
      · rw [q]
        exact fun H1 e1 kf1 vs vl => key vs H1 e1 kf1 vl
      · rintro rfl
        rw [cks_nil hcs] at q
        cases q
        exact key [] H (Same.refl H) at_.sv.kf ⟨[], [], rwl_nil.mpr ⟨rfl, rfl, rfl⟩, List.nodup_nil, by simp, by simp, by simp⟩
    | ex e =>
      rw [q2] at h
      have har2 : ds.length = pn.length := har ds (by rw [q2]; exact nofun)
      obtain ⟨W, tk, hW⟩ := h
      have hx : PassesAt (L2.CX X.prog X.w) X σ (fun cls d H' => W cls d σ H') := fun _ _ _ e s' I c => tk e s' (XE.of_call I (fun _ _ _ h => h) c)
      have key : ∀ (vs : List V) (H1 : Hp), Same H H1 → KF X.K H1 → VlL X.K H₀ H H1 nd T ds vs → spF X.K X.mg pn.length F t vs H1 Q (fun cls d H' => W cls d σ H') := fun vs H1 e1 kf1 vl => by
        obtain ⟨s, r, hs, ha⟩ := vl.allS at_.sv.sm
        refine ⟨ds, s, har2, r, ?_⟩
        rw [q2]
        exact fun cls dx H' e2 kf2 hx => hW H' cls dx (e1.trans e2) kf2 hx
      refine we_call0 (E := fun cls d H' => W cls d σ H') hpl F1 hr g1 g2 hm1 hk1 hb1 hx (ih.hA at_ ps hcs T eT _ ?_) ?_
      · rw [q]
        exact fun H1 e1 kf1 vs vl => key vs H1 e1 kf1 vl
      · rintro rfl
        rw [cks_nil hcs] at q
        cases q
        exact key [] H (Same.refl H) at_.sv.kf ⟨[], [], rwl_nil.mpr ⟨rfl, rfl, rfl⟩, List.nodup_nil, by simp, by simp, by simp⟩
theorem we_blt {S : Scp} {X : Cx} {σ : St} {H : Hp} (G : Gd C S X) (b : BI) {p pos : Pos} {e : Expr} {es : List Expr} {Q : VK} (hb : bltC S C.nb (b.nm : Str) = true) (hpl : (e :: es).all plainX = true)
    (h : WA X (e :: es) σ H fun vs H1 => WC X b.val vs H1 Q) : WE X (.Call (.Name (b.nm : Str) p) (e :: es) [] pos) σ H Q := by
  obtain ⟨g1, g2, g3, g4⟩ := blt_of G hb
  rw [List.all_cons, Bool.and_eq_true] at hpl
  cases b with
  | len => exact WE.of (pe_callB call_w g1 g3 boot_len pa_w g4 g2 (star_plain hpl.1) (plain_any hpl.2)) h
  | abs => exact WE.of (pe_callB call_w g1 g3 boot_abs pa_w g4 g2 (star_plain hpl.1) (plain_any hpl.2)) h
  | int => exact WE.of (pe_callTy call_w g1 g3 boot_int pa_w g4 g2 (star_plain hpl.1) (plain_any hpl.2)) h
  | sum => exact WE.of (pe_callB call_w g1 g3 boot_sum pa_w g4 g2 (star_plain hpl.1) (plain_any hpl.2)) h
  | list => exact WE.of (pe_callTy call_w g1 g3 boot_list pa_w g4 g2 (star_plain hpl.1) (plain_any hpl.2)) h
  | tuple => exact WE.of (pe_callTy call_w g1 g3 boot_tuple pa_w g4 g2 (star_plain hpl.1) (plain_any hpl.2)) h
  | max => exact WE.of (pe_callB call_w g1 g3 boot_max pa_w g4 g2 (star_plain hpl.1) (plain_any hpl.2)) h
  | min => exact WE.of (pe_callB call_w g1 g3 boot_min pa_w g4 g2 (star_plain hpl.1) (plain_any hpl.2)) h
theorem boot_TN (T : TN) : bootBuiltins (T.nm : Str) = some (.type T.nm) := by
  cases T
  · exact boot_bool
  · exact boot_int
  · exact boot_str
  · exact boot_list
  · exact boot_tuple
  · exact boot_dict
theorem snd_call {x : Str} {F : List D → R D} {t : Ty} {es : E} (fv : FnV C x F t) (ih : Snd C es) : Snd C (.call x F t es) := by
  have hE : ∀ {S X H₀ τ δ σ nd H}, At C S X H₀ τ δ σ nd H → ∀ (p : Expr), ck C.nb (.call x F t es) S false p = true → ∀ T, ty (.call x F t es) τ = some T → ∀ Q : VK, FinG X σ H (ev (.call x F t es) δ) (fun d H' => ∀ v, Vl X.K H₀ H H' nd T d v → Q v H') → WE X p σ H Q := by
    intro S X H₀ τ δ σ nd H at_ p hc T hT Q h
    cases p with
    | Call f ps kws pos =>
      cases f with
      | Name y py =>
        cases kws with
        | nil =>
          have hc1 : (decide (x = y) && glC S x && cks C.nb es S ps) = true := hc
          simp only [Bool.and_eq_true, decide_eq_true_eq] at hc1
          obtain ⟨⟨rfl, hg⟩, hcs⟩ := hc1
          have hT : ((tys es τ).bind fun Ts => some (if t = .F then Tv.fr else ⟨t, Ts.B, Ts.a⟩)) = some T := hT
          obtain ⟨Ts, eTs, hT⟩ := Option.bind_eq_some_iff.mp hT
          cases hT
          exact we_calls ih fv at_ hg hcs eTs h
        | cons _ _ => exact absurd hc (by simp [ck])
      | _ => exact absurd hc (by simp [ck])
    | _ => exact absurd hc (by simp [ck])
  refine Snd.of hE ?_ ?_ (fun _ _ => by simp [cks]) (fun _ _ => by simp [cko]) (fun _ _ => by simp [ckc]) (fun _ p h => by
    cases p with
    | Call f ps kws pos => cases f with
      | Name y py => cases kws <;> first | exact h | exact absurd h (by simp [ck])
      | _ => exact absurd h (by simp [ck])
    | _ => exact absurd h (by simp [ck]))
  · intro S X H₀ τ δ σ nd H at_ p hc T hT Q h
    cases p with
    | Call f ps kws pos =>
      cases f with
      | Name y py =>
        cases kws with
        | nil =>
          exact wt_val (fun Q => hE at_ _ hc T hT Q) h
        | cons _ _ => exact absurd hc (by simp [ck])
      | _ => exact absurd hc (by simp [ck])
    | _ => exact absurd hc (by simp [ck])
  · rintro S X H₀ τ δ σ nd H at_ p hc ⟨op, vs, pos, rfl⟩ T hT Q h
    exact absurd hc (by simp [ck])
theorem snd_blt {b : BI} {es : E} (ih : Snd C es) : Snd C (.blt b es) := by
  have hE : ∀ {S X H₀ τ δ σ nd H}, At C S X H₀ τ δ σ nd H → ∀ (p : Expr), ck C.nb (.blt b es) S false p = true → ∀ T, ty (.blt b es) τ = some T → ∀ Q : VK, FinG X σ H (ev (.blt b es) δ) (fun d H' => ∀ v, Vl X.K H₀ H H' nd T d v → Q v H') → WE X p σ H Q := by
    intro S X H₀ τ δ σ nd H at_ p hc T hT Q h
    cases p with
    | Call f ps kws pos =>
      cases f with
      | Name y py =>
        cases kws with
        | nil =>
          cases ps with
          | nil => exact absurd hc (by simp [ck])
          | cons p1 ps =>
            have hc1 : (decide ((b.nm : Str) = y) && bltC S C.nb y && cks C.nb es S (p1 :: ps)) = true := hc
            simp only [Bool.and_eq_true, decide_eq_true_eq] at hc1
            obtain ⟨⟨rfl, hg⟩, hcs⟩ := hc1
            have hT : ((tys es τ).bind fun Ts => some (bltT b Ts)) = some T := hT
            obtain ⟨Ts, eTs, hT⟩ := Option.bind_eq_some_iff.mp hT
            cases hT
            have h : FinG X σ H (evl es δ >>= bltD b) (fun d H' => ∀ v, Vl X.K H₀ H H' nd (bltT b Ts) d v → Q v H') := h
            refine we_blt at_.G b hg (cks_plain hcs) (ih.hA at_ _ hcs Ts eTs _ (h.bind.imp fun ds H1 e1 kf1 h vs vl => ?_))
            exact wc_blt at_.G.calm at_.sv.sm e1 kf1 at_.sv.old vl h
        | cons _ _ => cases ps <;> exact absurd hc (by simp [ck])
      | _ => exact absurd hc (by simp [ck])
    | _ => exact absurd hc (by simp [ck])
  refine Snd.of hE ?_ ?_ (fun _ _ => by simp [cks]) (fun _ _ => by simp [cko]) (fun _ _ => by simp [ckc]) (fun _ p h => by
    cases p with
    | Call f ps kws pos => cases f with
      | Name y py => cases kws <;> cases ps <;> first | exact h | exact absurd h (by simp [ck])
      | _ => exact absurd h (by simp [ck])
    | _ => exact absurd h (by simp [ck]))
  · intro S X H₀ τ δ σ nd H at_ p hc T hT Q h
    cases p with
    | Call f ps kws pos =>
      cases f with
      | Name y py =>
        cases kws with
        | nil =>
          cases ps with
          | nil => exact absurd hc (by simp [ck])
          | cons p1 ps =>
            exact wt_val (fun Q => hE at_ _ hc T hT Q) h
        | cons _ _ => cases ps <;> exact absurd hc (by simp [ck])
      | _ => exact absurd hc (by simp [ck])
    | _ => exact absurd hc (by simp [ck])
  · rintro S X H₀ τ δ σ nd H at_ p hc ⟨op, vs, pos, rfl⟩ T hT Q h
    exact absurd hc (by simp [ck])
theorem snd_isi {T0 : TN} {a : E} (iha : Snd C a) : Snd C (.isi T0 a) := by
  have hE : ∀ {S X H₀ τ δ σ nd H}, At C S X H₀ τ δ σ nd H → ∀ (p : Expr), ck C.nb (.isi T0 a) S false p = true → ∀ T, ty (.isi T0 a) τ = some T → ∀ Q : VK, FinG X σ H (ev (.isi T0 a) δ) (fun d H' => ∀ v, Vl X.K H₀ H H' nd T d v → Q v H') → WE X p σ H Q := by
    intro S X H₀ τ δ σ nd H at_ p hc T hT Q h
    cases p with
    | Call f ps kws pos =>
      cases f with
      | Name y py =>
        rcases ps with _ | ⟨pa, _ | ⟨pz, _ | ⟨_, _⟩⟩⟩ <;> cases kws <;> try (exfalso; revert hc; simp [ck]; done)
        cases pz with
        | Name z pz =>
          have hc1 : (decide (y = ("isinstance" : Str)) && bltC S C.nb y && decide (z = (T0.nm : Str)) && plainX pa && bltC S C.nb z && ck C.nb a S false pa) = true := hc
          simp only [Bool.and_eq_true, decide_eq_true_eq] at hc1
          obtain ⟨⟨⟨⟨⟨rfl, hg⟩, rfl⟩, hpl⟩, hg2⟩, hca⟩ := hc1
          have hT : ((ty a τ).bind fun Ta => some (Tv.fr)) = some T := hT
          obtain ⟨Ta, eTa, hT⟩ := Option.bind_eq_some_iff.mp hT
          cases hT
          have h : FinG X σ H (ev a δ >>= isiD T0) (fun d H' => ∀ v, Vl X.K H₀ H H' nd Tv.fr d v → Q v H') := h
          obtain ⟨g1, g2, g3, g4⟩ := blt_of at_.G hg
          obtain ⟨k1, k2, k3, k4⟩ := blt_of at_.G hg2
          refine WE.of (pe_callB call_w g1 g3 boot_isinstance (pa_cons pe_w (pa_cons (pe_bltn (v := .ty T0.nm) k1 k3 (boot_TN T0) rfl k4 k2) pa_nil (by rfl)) (star_plain hpl)) g4 g2 (star_plain hpl) (by rfl)) ?_
          refine iha.hE at_ pa hca Ta eTa _ (h.bind.imp fun dx H1 e1 kf1 h x vx => ?_)
          obtain ⟨_, _, _, rx⟩ := vx.rw
          exact wc_isi kf1 rx h
        | _ => exact absurd hc (by simp [ck])
      | _ => exact absurd hc (by simp [ck])
    | _ => exact absurd hc (by simp [ck])
  refine Snd.of hE ?_ ?_ (fun _ _ => by simp [cks]) (fun _ _ => by simp [cko]) (fun _ _ => by simp [ckc]) (fun _ p h => by
    cases p with
    | Call f ps kws pos => cases f with
      | Name y py =>
        rcases ps with _ | ⟨pa, _ | ⟨pz, _ | ⟨_, _⟩⟩⟩ <;> cases kws <;> first | (exfalso; revert h; simp [ck]; done) | (cases pz <;> first | exact h | (exfalso; revert h; simp [ck]; done))
      | _ => exact absurd h (by simp [ck])
    | _ => exact absurd h (by simp [ck]))
  · intro S X H₀ τ δ σ nd H at_ p hc T hT Q h
    cases p with
    | Call f ps kws pos =>
      cases f with
      | Name y py =>
        rcases ps with _ | ⟨pa, _ | ⟨pz, _ | ⟨_, _⟩⟩⟩ <;> cases kws <;> try (exfalso; revert hc; simp [ck]; done)
        cases pz with
        | Name z pz =>
          exact wt_val (fun Q => hE at_ _ hc T hT Q) h
        | _ => exact absurd hc (by simp [ck])
      | _ => exact absurd hc (by simp [ck])
    | _ => exact absurd hc (by simp [ck])
  · rintro S X H₀ τ δ σ nd H at_ p hc ⟨op, vs, pos, rfl⟩ T hT Q h
    exact absurd hc (by simp [ck])
end
end VS
set_option Elab.async false
set_option linter.all false
set_option maxRecDepth 100000
namespace VS
open PySem PySem.Spec L2
open PyProof.Rows hiding St
section
variable {C : Ctx}
theorem rwl_ints {K : PySem.W.Frag} {H : Hp} {t : Ty} : ∀ l : List Int, RwL K H (l.map PyData.int) t (l.map V.int) [] []
  | [] => rwl_nil.mpr ⟨rfl, rfl, rfl⟩
  | i :: l => rwl_cons.mpr ⟨.int i, _, [], [], [], [], rfl, rfl, rfl, rw_int.mpr ⟨rfl, rfl, rfl⟩, rwl_ints l⟩
/-- a range walked -/
theorem fin_rng {X : Cx} {σ : St} {H₀ Hb H : Hp} {nd : List (List Addr × List Addr)} {T : Tv} {lo hi : Int} {R : It → Hp → Prop} (kf : KF X.K H)
    (h : FinG X σ H (rngD lo hi >>= iterD) (fun xs H' => ∀ J vs St w, Itk X.K J vs St → St H' → StdOk X.K St w → vs.length ≤ sizeLine → (∀ a, w = some a → Old X.K H' a ∧ (New X.K Hb a ∨ ∃ i p, nd[i]? = some p ∧ (a ∈ p.2 ∨ (i ∈ T.B ∧ a ∈ p.1)))) → VlL X.K H₀ Hb H' nd ⟨.S, T.B, T.a⟩ xs vs → R J H')) :
    (-(2 ^ 62) ≤ lo ∧ lo < 2 ^ 62 ∧ -(2 ^ 62) ≤ hi ∧ hi < 2 ^ 62) ∧ R (Itr lo (hi - lo).toNat) H := by
  unfold rngD at h
  by_cases c : -(2 ^ 62) ≤ lo ∧ lo < 2 ^ 62 ∧ -(2 ^ 62) ≤ hi ∧ hi < 2 ^ 62 ∧ (hi - lo).toNat ≤ sizeLine
  · rw [if_pos c] at h
    refine ⟨⟨c.1, c.2.1, c.2.2.1, c.2.2.2.1⟩, ?_⟩
    have h := FinG.ok (σ := σ) h kf
    have e1 : ((List.range (hi - lo).toNat).map fun (i : Nat) => PyData.int (lo + (i : Int))) = (((List.range (hi - lo).toNat).map fun (i : Nat) => lo + (i : Int)).map PyData.int) := by rw [List.map_map]; rfl
    refine h (Itr lo (hi - lo).toNat) (((List.range (hi - lo).toNat).map fun (i : Nat) => lo + (i : Int)).map V.int) (fun _ => True) none
      ⟨fun i H _ hi => by simp only [List.length_map, List.length_range] at hi; exact hi, fun H _ => by simp only [List.length_map, List.length_range]; exact Nat.le_refl _, fun i H x H' _ y hi => ?_⟩ trivial ⟨fun _ _ _ z => z, fun _ _ _ _ _ z => z⟩ (by simp only [List.length_map, List.length_range]; exact c.2.2.2.2) (fun a z => nomatch z) ?_
    · obtain ⟨e, rfl⟩ := y
      refine ⟨e, ?_⟩
      simp only [List.length_map, List.length_range] at hi
      simp [List.getElem?_map, hi]
    · rw [e1]
      exact ⟨[], [], rwl_ints _, List.nodup_nil, by simp, by simp, by simp⟩
  · rw [if_neg c] at h
    exact False.elim h
theorem snd_rng1 {a : E} (iha : Snd C a) : Snd C (.rng1 a) where
  hE := fun _ p h => by cases p <;> simp [ck] at h
  hT := fun _ p h => by cases p <;> simp [ck] at h
  hW := fun _ p h => by cases p <;> simp [ck] at h
  hA := fun _ p h => by simp [cks] at h
  hO := fun _ p h => by simp [cko] at h
  hC := fun _ p h => by simp [ckc] at h
  hI := fun {S X H₀ τ δ σ nd H} at_ tg p hc T hT R h => by
    cases p with
    | Call f ps kws pos =>
      cases f with
      | Name y py =>
        rcases ps with _ | ⟨pa, _ | ⟨_, _⟩⟩ <;> cases kws <;> try (exfalso; revert hc; simp [ck]; done)
        have hc1 : (decide (y = ("range" : Str)) && bltC S C.nb y && plainX pa && ck C.nb a S false pa) = true := hc
        simp only [Bool.and_eq_true, decide_eq_true_eq] at hc1
        obtain ⟨⟨⟨rfl, hg⟩, hp⟩, hca⟩ := hc1
        have hT : ((ty a τ).bind fun _ => some Tv.fr) = some T := hT
        obtain ⟨Ta, eTa, hT⟩ := Option.bind_eq_some_iff.mp hT
        cases hT
        obtain ⟨g1, g2, g3, g4⟩ := blt_of at_.G hg
        have h : FinG X σ H (((ev a δ >>= intD) >>= fun j => rngD 0 j) >>= iterD) _ := h
        rw [VS.R.assoc] at h
        refine WI.of (pi_range1 g1 g3 (pa_cons pe_w pa_nil (star_plain hp)) (star_plain hp)) (iha.hE at_ pa hca Ta eTa _ (h.bind.bind.imp fun d H1 e1 kf1 h v vl => ?_))
        cases d with
        | int j =>
          obtain ⟨_, _, _, r⟩ := vl.rw
          rw [rw_int] at r
          have h := FinG.ok (σ := σ) h kf1
          obtain ⟨c, q⟩ := fin_rng kf1 h
          rw [Int.sub_zero] at q
          exact ⟨j, by rw [r.1], c.2.2.1, c.2.2.2, q⟩
        | _ => exact False.elim h
      | _ => exact absurd hc (by simp [ck])
    | _ => exact absurd hc (by simp [ck])
theorem snd_rng2 {a b : E} (iha : Snd C a) (ihb : Snd C b) : Snd C (.rng2 a b) where
  hE := fun _ p h => by cases p <;> simp [ck] at h
  hT := fun _ p h => by cases p <;> simp [ck] at h
  hW := fun _ p h => by cases p <;> simp [ck] at h
  hA := fun _ p h => by simp [cks] at h
  hO := fun _ p h => by simp [cko] at h
  hC := fun _ p h => by simp [ckc] at h
  hI := fun {S X H₀ τ δ σ nd H} at_ tg p hc T hT R h => by
    cases p with
    | Call f ps kws pos =>
      cases f with
      | Name y py =>
        rcases ps with _ | ⟨pa, _ | ⟨pb, _ | ⟨_, _⟩⟩⟩ <;> cases kws <;> try (exfalso; revert hc; simp [ck]; done)
        have hc1 : (decide (y = ("range" : Str)) && bltC S C.nb y && plainX pa && plainX pb && ck C.nb a S false pa && ck C.nb b S false pb) = true := hc
        simp only [Bool.and_eq_true, decide_eq_true_eq] at hc1
        obtain ⟨⟨⟨⟨⟨rfl, hg⟩, hp⟩, hp2⟩, hca⟩, hcb⟩ := hc1
        have hT : ((ty a τ).bind fun _ => (ty b τ).bind fun _ => some Tv.fr) = some T := hT
        obtain ⟨Ta, eTa, hT⟩ := Option.bind_eq_some_iff.mp hT
        obtain ⟨Tb, eTb, hT⟩ := Option.bind_eq_some_iff.mp hT
        cases hT
        obtain ⟨g1, g2, g3, g4⟩ := blt_of at_.G hg
        have h : FinG X σ H (((ev a δ >>= intD) >>= fun i => (ev b δ >>= intD) >>= fun j => rngD i j) >>= iterD) _ := h
        rw [VS.R.assoc] at h
        refine WI.of (pi_range2 g1 g3 (pa_cons pe_w (pa_cons pe_w pa_nil (star_plain hp2)) (star_plain hp)) (by rw [star_plain hp, star_plain hp2]; rfl) (star_plain hp2)) (iha.hE at_ pa hca Ta eTa _ (h.bind.bind.imp fun d H1 e1 kf1 h v vl => ?_))
        cases d with
        | int i =>
          obtain ⟨_, _, _, r⟩ := vl.rw
          rw [rw_int] at r
          have h := FinG.ok (σ := σ) h kf1
          have h : FinG X σ H1 ((((ev b δ >>= intD) >>= fun j => rngD i j) >>= iterD)) _ := h
          rw [VS.R.assoc] at h
          refine ihb.hE (at_.grow e1 kf1) pb hcb Tb eTb _ (h.bind.bind.imp fun d2 H2 e2 kf2 h w wl => ?_)
          cases d2 with
          | int j =>
            obtain ⟨_, _, _, r2⟩ := wl.rw
            rw [rw_int] at r2
            have h := FinG.ok (σ := σ) h kf2
            obtain ⟨c, q⟩ := fin_rng kf2 h
            exact ⟨i, j, by rw [r.1, r2.1], c, q⟩
          | _ => exact False.elim h
        | _ => exact False.elim h
      | _ => exact absurd hc (by simp [ck])
    | _ => exact absurd hc (by simp [ck])
theorem snd_cI {a : E} (iha : Snd C a) : Snd C (.cI a) := by
  refine Snd.of ?_ ?_ ?_ (fun _ _ => by simp [cks]) (fun _ _ => by simp [cko]) (fun _ _ => by simp [ckc]) (fun S p h => by cases p <;> exact h)
  · intro S X H₀ τ δ σ nd H at_ p hc T hT Q h
    have hca : ck C.nb a S false p = true := by cases p <;> exact hc
    have hT : ((ty a τ).bind fun _ => some Tv.fr) = some T := hT
    obtain ⟨Ta, eTa, hT⟩ := Option.bind_eq_some_iff.mp hT
    cases hT
    have h : FinG X σ H (ev a δ >>= fun d => if imm d = true then .ok d else .no) (fun d H' => ∀ v, Vl X.K H₀ H H' nd Tv.fr d v → Q v H') := h
    refine iha.hE at_ p hca Ta eTa _ (h.bind.imp fun d H1 e1 kf1 h v vl => ?_)
    obtain ⟨c, h⟩ := FinG.ite h
    obtain ⟨_, _, _, r⟩ := vl.rw
    exact FinG.ok (σ := σ) h kf1 v (Vl.imm r c)
  · intro S X H₀ τ δ σ nd H at_ p hc T hT Q h
    have hca : ck C.nb a S false p = true := by cases p <;> exact hc
    have hT : ((ty a τ).bind fun _ => some Tv.fr) = some T := hT
    obtain ⟨Ta, eTa, hT⟩ := Option.bind_eq_some_iff.mp hT
    have h : FinG X σ H ((ev a δ >>= fun d => if imm d = true then .ok d else .no) >>= boolD) (fun b H' => Q b H') := h
    refine iha.hT at_ p hca Ta eTa _ ?_
    have e : ((ev a δ >>= fun d => if imm d = true then R.ok d else .no) >>= boolD) = (ev a δ >>= boolD) := by
      cases q : ev a δ with
      | ok d => cases d <;> first | rfl | (show ((if imm _ = true then R.ok _ else .no) >>= boolD) = _; split <;> rfl)
      | ex x => rfl
      | no => rfl
    rw [e] at h
    exact h
  · rintro S X H₀ τ δ σ nd H at_ p hc hb T hT Q h
    have hca : ck C.nb a S false p = true := by cases p <;> exact hc
    have hT : ((ty a τ).bind fun _ => some Tv.fr) = some T := hT
    obtain ⟨Ta, eTa, hT⟩ := Option.bind_eq_some_iff.mp hT
    have h : FinG X σ H ((ev a δ >>= fun d => if imm d = true then .ok d else .no) >>= boolD) (fun b H' => Q b H') := h
    refine iha.hW at_ p hca hb Ta eTa _ ?_
    have e : ((ev a δ >>= fun d => if imm d = true then R.ok d else .no) >>= boolD) = (ev a δ >>= boolD) := by
      cases q : ev a δ with
      | ok d => cases d <;> first | rfl | (show ((if imm _ = true then R.ok _ else .no) >>= boolD) = _; split <;> rfl)
      | ex x => rfl
      | no => rfl
    rw [e] at h
    exact h
theorem snd_cL {a : E} (iha : Snd C a) : Snd C (.cL a) := by
  have nob : ∀ (δ : Sl), ∀ b, (ev (.cL a) δ >>= boolD) ≠ .ok b := by
    intro δ b
    show ((ev a δ >>= fun d => match d with
      | .list ds => if immL ds = true then R.ok (PyData.list ds) else .no
      | _ => .no) >>= boolD) ≠ .ok b
    cases q : ev a δ with
    | ok d =>
      cases d with
      | list ds =>
        show ((if immL ds = true then R.ok (PyData.list ds) else .no) >>= boolD) ≠ .ok b
        split <;> exact nofun
      | _ => exact nofun
    | ex x => exact nofun
    | no => exact nofun
  have exs : ∀ (δ : Sl) x, (ev (.cL a) δ >>= boolD) = .ex x → (ev a δ >>= boolD) = .ex x := by
    intro δ x h
    have h : ((ev a δ >>= fun d => match d with
      | .list ds => if immL ds = true then R.ok (PyData.list ds) else .no
      | _ => .no) >>= boolD) = .ex x := h
    cases q : ev a δ with
    | ok d =>
      rw [q] at h
      cases d with
      | list ds =>
        have h : ((if immL ds = true then R.ok (PyData.list ds) else .no) >>= boolD) = .ex x := h
        split at h <;> cases h
      | _ => cases h
    | ex y => rw [q] at h; exact h
    | no => rw [q] at h; cases h
  have tst : ∀ {X : Cx} {σ : St} {H : Hp} {δ : Sl} {Q : Bool → Hp → Prop}, FinG X σ H (ev (.cL a) δ >>= boolD) (fun b H' => Q b H') → FinG X σ H (ev a δ >>= boolD) (fun b H' => Q b H') := by
    intro X σ H δ Q h
    cases q : (ev (.cL a) δ >>= boolD) with
    | ok b => exact absurd q (nob δ b)
    | ex x => rw [exs δ x q]; rw [q] at h; exact h
    | no => rw [q] at h; exact False.elim h
  refine Snd.of ?_ ?_ ?_ (fun _ _ => by simp [cks]) (fun _ _ => by simp [cko]) (fun _ _ => by simp [ckc]) (fun S p h => by cases p <;> exact h)
  · intro S X H₀ τ δ σ nd H at_ p hc T hT Q h
    have hca : ck C.nb a S false p = true := by cases p <;> exact hc
    have hT : ((ty a τ).bind fun T => match T.t with
      | .S => none
      | _ => some Tv.fr) = some T := hT
    obtain ⟨Ta, eTa, hT⟩ := Option.bind_eq_some_iff.mp hT
    have h : FinG X σ H (ev a δ >>= fun d => match d with
      | .list ds => if immL ds = true then R.ok (PyData.list ds) else .no
      | _ => .no) (fun d H' => ∀ v, Vl X.K H₀ H H' nd T d v → Q v H') := h
    refine iha.hE at_ p hca Ta eTa _ (h.bind.imp fun d H1 e1 kf1 h v vl => ?_)
    cases d with
    | list ds =>
      obtain ⟨c, h⟩ := FinG.ite h
      obtain ⟨o, s, r, no, ho, _⟩ := vl
      rw [rw_lst] at r
      obtain ⟨ad, vs, o', s', rfl, hl, hr, n⟩ := r
      obtain ⟨eo, es, hr2⟩ := RwL.imm ds c hr
      subst eo es
      have nS : Ta.t ≠ .S := fun e => by rw [e] at hT; cases hT
      have hT2 : T = Tv.fr := by
        cases q : Ta.t with
        | S => exact absurd q nS
        | F => rw [q] at hT; cases hT; rfl
        | L t => rw [q] at hT; cases hT; rfl
      subst hT2
      have h2 : H1 ad = some (.lst vs) ∧ o = [ad] := by
        cases q : Ta.t with
        | S => exact absurd q nS
        | F => rw [q] at hl n; exact ⟨hl, n.1⟩
        | L t => rw [q] at hl n; exact ⟨hl, n.1⟩
      obtain ⟨h2, rfl⟩ := h2
      exact FinG.ok (σ := σ) h kf1 _ ⟨[ad], [], Rw.lstF h2 (hr2 .F), no, fun b z => ⟨(ho b z).1, by simp⟩, by simp, by simp⟩
    | _ => exact False.elim h
  · intro S X H₀ τ δ σ nd H at_ p hc T hT Q h
    have hca : ck C.nb a S false p = true := by cases p <;> exact hc
    obtain ⟨Ta, eTa, _⟩ := Option.bind_eq_some_iff.mp (show ((ty a τ).bind fun T => match T.t with
      | .S => none
      | _ => some Tv.fr) = some T from hT)
    exact iha.hT at_ p hca Ta eTa _ (tst h)
  · rintro S X H₀ τ δ σ nd H at_ p hc hb T hT Q h
    have hca : ck C.nb a S false p = true := by cases p <;> exact hc
    obtain ⟨Ta, eTa, _⟩ := Option.bind_eq_some_iff.mp (show ((ty a τ).bind fun T => match T.t with
      | .S => none
      | _ => some Tv.fr) = some T from hT)
    exact iha.hW at_ p hca hb Ta eTa _ (tst h)
end
end VS
set_option Elab.async false
set_option linter.all false
set_option maxRecDepth 100000
namespace VS
open PySem PySem.Spec L2
open PyProof.Rows hiding St
/-! ### comprehensions -/
theorem compL_ok {f : D → R (Option D)} : ∀ {xs ys : List D}, compL f xs = .ok ys → ∃ os : List (Option D), os.length = xs.length ∧ (∀ (i : Nat) x, xs[i]? = some x → ∃ o, os[i]? = some o ∧ f x = .ok o) ∧ ys = os.filterMap id
  | [], ys, h => by
    cases h
    exact ⟨[], rfl, fun i x h => by simp at h, rfl⟩
  | x :: xs, ys, h => by
    unfold compL at h
    cases q : f x with
    | ok o =>
      rw [q] at h
      have h : (compL f xs >>= fun ys => R.ok (o.toList ++ ys)) = .ok ys := h
      cases q2 : compL f xs with
      | ok zs =>
        rw [q2] at h
        obtain ⟨os, h1, h2, h3⟩ := compL_ok q2
        refine ⟨o :: os, by rw [List.length_cons, List.length_cons, h1], fun i z hz => ?_, ?_⟩
        · cases i with
          | zero =>
            simp at hz; subst hz
            exact ⟨o, rfl, q⟩
          | succ i => exact h2 i z (by simpa using hz)
        · have h : o.toList ++ zs = ys := R.ok.inj h
          subst h h3
          cases o <;> rfl
      | ex e => rw [q2] at h; cases h
      | no => rw [q2] at h; cases h
    | ex e => rw [q] at h; cases h
    | no => rw [q] at h; cases h
theorem take_fm (os : List (Option D)) (i : Nat) (o : Option D) (h : os[i]? = some o) : (os.take (i + 1)).filterMap id = (os.take i).filterMap id ++ o.toList := by
  rw [List.take_add_one, h, List.filterMap_append]
  cases o <;> rfl
theorem upd_eq {H : Hp} {D : Addr} {o : HO} (h : H D = some o) : H = upd (fun b => if b = D then none else H b) D o := by
  funext b
  unfold upd
  by_cases e : b = D
  · subst e; rw [if_pos rfl]; exact h
  · rw [if_neg e]
    show H b = if b = D then none else H b
    rw [if_neg e]
section
variable {C : Ctx} {S : Scp} {X : Cx} {H₀ H : Hp} {τ : Tys} {δ : Sl} {σ : St} {nd : List (List Addr × List Addr)}
/-- the readings of a comprehension's parts, for every block of it -/
def GU (X : Cx) (scope : Scope) (tg : Expr) : TG := fun v σ H Q => ∀ (s : Shared) (Hs : Hp) (Ca : Addr) (cl : List (Str × Addr)) (fp : List Addr), WG (X.blk s Hs scope (compEnvC scope cl Ca X.env) fp) tg v σ H Q
def QU (X : Cx) (scope : Scope) (ifs : List Expr) : TT := fun σ H Q => ∀ (s : Shared) (Hs : Hp) (Ca : Addr) (cl : List (Str × Addr)) (fp : List Addr), WQ (X.blk s Hs scope (compEnvC scope cl Ca X.env) fp) ifs σ H Q
def EU (X : Cx) (scope : Scope) (e : Expr) : TE := fun σ H Q => ∀ (s : Shared) (Hs : Hp) (Ca : Addr) (cl : List (Str × Addr)) (fp : List Addr), WE (X.blk s Hs scope (compEnvC scope cl Ca X.env) fp) e σ H Q
theorem gu_w {scope : Scope} {tg : Expr} (s : Shared) (Hs : Hp) (Ca : Addr) (cl : List (Str × Addr)) (fp : List Addr) : PG (X.blk s Hs scope (compEnvC scope cl Ca X.env) fp) tg (GU X scope tg) := ⟨fun pins s' σ H v u Q I r h => h s Hs Ca cl fp pins s' u I r⟩
theorem qu_w {scope : Scope} {ifs : List Expr} (s : Shared) (Hs : Hp) (Ca : Addr) (cl : List (Str × Addr)) (fp : List Addr) : PTs (X.blk s Hs scope (compEnvC scope cl Ca X.env) fp) ifs (QU X scope ifs) := ⟨fun pins s' σ H Q I h => h s Hs Ca cl fp pins s' I⟩
theorem eu_w {scope : Scope} {e : Expr} (s : Shared) (Hs : Hp) (Ca : Addr) (cl : List (Str × Addr)) (fp : List Addr) : PE (X.blk s Hs scope (compEnvC scope cl Ca X.env) fp) e (EU X scope e) := ⟨fun pins s' σ H Q I h => h s Hs Ca cl fp pins s' I⟩
def compW (T U : Tv) : Tv := if U.nm = .F then .fr else ⟨.S, U.B ++ T.B, U.a⟩
theorem compW_nm (T U : Tv) : (compW T U).nm = if U.nm = .F then .F else .S := by
  unfold compW
  split
  · rfl
  · unfold Tv.nm; split <;> rfl
def compF (tg : Tg) (cnd elt : E) (own : List (Str × Nat)) (δ : Sl) (x : D) : R (Option D) := setTg tg x (wipeD δ (own.map (·.2))) >>= fun δ' => evc cnd δ' >>= fun c => match c with
  | true => ev elt δ' >>= fun y => .ok (some y)
  | false => .ok none
theorem WG.kf0 {X : Cx} {p : Expr} {v : V} {σ : St} {H : Hp} {Q : St → Hp → Prop} (h : KF X.K H → WG X p v σ H Q) : WG X p v σ H Q := fun pins s u I r => h (kf_inv I) pins s u I r
theorem kf_erase {K : PySem.W.Frag} {Hx : Hp} {D : Addr} {o : HO} (kf : KF K (upd Hx D o)) (n : Hx D = none) : KF K Hx ∧ New K Hx D := by
  refine ⟨⟨fun a ob e => ?_, fun a xs h => kf.2 a xs (h.imp (fun z => (same_upd n).seq z) fun z => sqt_same (same_upd n) z)⟩, new_of kf n⟩
  have z := kf.1 a ob e
  by_cases q : a = D
  · rw [q]; exact n
  · rw [upd_ne q] at z; exact z
theorem set_wiped {σ : St} {u : Nat} : ∀ {vs : List Nat}, u ∈ vs → (wipe σ vs).set u none = wipe σ vs
  | w :: vs, h => by
    show ((wipe σ vs).set w none).set u none = (wipe σ vs).set w none
    by_cases e : w = u
    · subst e; rw [List.set_set]
    · rw [List.set_comm _ _ e, set_wiped ((List.mem_cons.mp h).resolve_left fun z => e z.symm)]
theorem wipe_sub {σ : St} {vs : List Nat} : ∀ {us : List Nat}, (∀ u ∈ us, u ∈ vs) → wipe (wipe σ vs) us = wipe σ vs
  | [], _ => rfl
  | u :: us, h => by
    show (wipe (wipe σ vs) us).set u none = wipe σ vs
    rw [wipe_sub fun z hz => h z (List.mem_cons_of_mem _ hz), set_wiped (h u List.mem_cons_self)]
/-- THE RULE: what the block of a comprehension reads -/
theorem comp_core {own : List (Str × Nat)} {tg : Tg} {it cnd elt : E} (ihi : Snd C it) (ihc : Snd C cnd) (ihe : Snd C elt) (at_ : At C S X H₀ τ δ σ nd H) {scope : Scope} {ptg pit pe : Expr} {pifs : List Expr}
    (hci : ck C.nb it S true pit = true) (hct : tgC (S.blk scope) tg ptg = true) (htg : tgIn (own.map (·.2)) tg = true) (hcc : ckc C.nb cnd (S.blk scope) pifs = true) (hce : ck C.nb elt (S.blk scope) false pe = true)
    {T U : Tv} (eT : ty it τ = some T) (eC : tyc cnd (setTy tg (some (.S, T.a)) (wipeT τ (own.map (·.2)))) = some ()) (eU : ty elt (setTy tg (some (.S, T.a)) (wipeT τ (own.map (·.2)))) = some U) {Q : VK}
    (h : FinG X σ H ((ev it δ >>= iterD) >>= fun xs => nox (compL (compF tg cnd elt own δ) xs) >>= fun ys => .ok (PyData.list ys)) (fun d H' => ∀ v, Vl X.K H₀ H H' nd (compT T U) d v → Q v H')) :
    tLc (WI X ptg pit) (GU X scope ptg) (QU X scope pifs) (EU X scope pe) (own.map (·.2)) σ H (fun v H' => KF X.K H' → Q v H') := by
  refine ihi.hI at_ ptg pit hci T eT _ (h.bind.imp fun xs H1 e1 kf1 h J vs St w hJ hSt hStd hsz hw hvl D hD => ?_)
  -- the values
  cases q : compL (compF tg cnd elt own δ) xs with
  | ex e => rw [q] at h; exact False.elim h
  | no => rw [q] at h; exact False.elim h
  | ok ys =>
    rw [q] at h
    have h : FinG X σ H1 (.ok (PyData.list ys)) (fun d H' => ∀ v, Vl X.K H₀ H H' nd (compT T U) d v → Q v H') := h
    obtain ⟨os, hol, hos, rfl⟩ := compL_ok q
    -- the items, shared
    obtain ⟨sI, rI, hsI, haI⟩ := hvl.allS at_.sv.sm
    have lenV : vs.length = xs.length := rI.length
    have oldI : ∀ b ∈ sI, Old X.K H1 b := fun b hb => RwL.old xs rI b (.inr hb)
    have ndl : ∀ (j : Nat) (p : List Addr × List Addr), nd[j]? = some p → (nd ++ [([], sI)])[j]? = some p := fun j p hp => by
      have := (List.getElem?_eq_some_iff.mp hp).1
      rw [List.getElem?_append_left this]; exact hp
    have ndx : (nd ++ [([], sI)])[nd.length]? = some ([], sI) := by simp
    have ndr : ∀ (j : Nat) (p : List Addr × List Addr), (nd ++ [([], sI)])[j]? = some p → nd[j]? = some p ∨ (j = nd.length ∧ p = ([], sI)) := fun j p hp => by
      by_cases hj : j < nd.length
      · rw [List.getElem?_append_left hj] at hp
        exact .inl hp
      · have hj2 := (List.getElem?_eq_some_iff.mp hp).1
        simp at hj2
        have e : j = nd.length := by omega
        subst e
        rw [ndx] at hp
        exact .inr ⟨rfl, (Option.some.inj hp).symm⟩
    have hold : ∀ (j : Nat) (p : List Addr × List Addr), (nd ++ [([], sI)])[j]? = some p → ∀ b, b ∈ p.1 ∨ b ∈ p.2 → Old X.K H1 b := fun j p hp b hb n => by
      rcases ndr j p hp with z | ⟨_, z⟩
      · exact at_.sv.old j p z b hb (n.back e1)
      · subst z
        exact oldI b (hb.resolve_left (by simp)) n
    -- the invariant
    refine ⟨fun i m Hi => m = vs.length - i ∧ i ≤ vs.length ∧ ∃ Hx acc, Hi = upd Hx D (.lst acc) ∧ Hx D = none ∧ Same H1 Hx ∧ acc.length ≤ i ∧
      (KF X.K Hi → VlL X.K H₀ H1 Hx (nd ++ [([], sI)]) (compW T U) ((os.take i).filterMap id) acc), ⟨vs.length, by omega, Nat.zero_le _, H1, [], rfl, hD, Same.refl _, Nat.le_refl _, fun _ => ?_⟩, fun i m Hi hW => ?_⟩
    · exact ⟨[], [], rwl_nil.mpr ⟨rfl, rfl, rfl⟩, List.nodup_nil, by simp, by simp, by simp⟩
    · obtain ⟨rfl, hi, Hx, acc, rfl, hDx, sx, hacc, hVl⟩ := hW
      have s1 : Same H1 (upd Hx D (.lst acc)) := sx.trans (same_upd hDx)
      have hSti := hStd.1 _ _ s1 hSt
      by_cases hlt : i < vs.length
      · -- a turn
        have hx : i < xs.length := by omega
        obtain ⟨o, ho, hf⟩ := hos i xs[i] (by simp [hx])
        refine .inr ⟨hJ.go i _ hSti hlt, fun H' => ∃ Hx acc, H' = upd Hx D (.lst acc) ∧ Hx D = none ∧ Same H1 Hx ∧ acc.length ≤ i + 1 ∧ (KF X.K H' → VlL X.K H₀ H1 Hx (nd ++ [([], sI)]) (compW T U) ((os.take (i + 1)).filterMap id) acc), fun H' hN => ?_, fun x H' hy => ?_⟩
        · obtain ⟨Hy, acc', r1, r2, r3, r4, r5⟩ := hN
          exact ⟨vs.length - (i + 1), by omega, rfl, hlt, Hy, acc', r1, r2, r3, r4, r5⟩
        · obtain ⟨rfl, hxv⟩ := hJ.yld i _ x _ hSti hy hlt
          intro s0 Hs0 Ca cl fp
          have G' := at_.G.blk s0 Hs0 scope cl Ca fp
          refine WG.kf0 fun kfi => ?_
          have kfi : KF X.K (upd Hx D (.lst acc)) := kfi
          obtain ⟨kfx, newD⟩ := kf_erase kfi hDx
          have VL := hVl kfi
          -- the item
          obtain ⟨v1, o1, s1', ev1, rv1, l1, l2⟩ := rI.item (i := i) (d := xs[i]) (by simp [hx])
          have eo1 : o1 = [] := List.sublist_nil.mp l1
          subst eo1
          have exv : v1 = x := by rw [hxv] at ev1; exact (Option.some.inj ev1).symm
          subst exv
          have rv2 : Rw X.K (upd Hx D (.lst acc)) xs[i] .S v1 [] s1' := Rw.same s1 _ rv1
          -- the target
          unfold compF at hf
          cases qt : setTg tg xs[i] (wipeD δ (own.map (·.2))) with
          | ex e => rw [qt] at hf; cases hf
          | no => rw [qt] at hf; cases hf
          | ok δ' =>
            rw [qt] at hf
            have hf : (evc cnd δ' >>= fun c => match c with
              | true => ev elt δ' >>= fun y => .ok (some y)
              | false => R.ok none) = .ok o := hf
            have sv0 := at_.sv.grow (e1.trans s1) kfi
            obtain ⟨nd0, sv1, in1⟩ := sv0.wipe (own.map (·.2))
            refine wg_tg (a := T.a) G' hct qt rv2 (fun ea b hb => haI ea b (l2.subset hb)) sv1 fun σ2 nd2 sv2 in2 hwp => ⟨(hwp _ htg).trans (wipe_sub fun _ z => z), ?_⟩
            -- the slots' nodes in the block
            have hnd2 : ∀ (j : Nat) (p : List Addr × List Addr), nd2[j]? = some p → (nd[j]? = some p) ∨ (p.1 = [] ∧ ∀ b ∈ p.2, b ∈ s1') := fun j p hp => by
              rcases in2 j p hp with z | z
              · rcases in1 j p z with z | z
                · exact .inl z
                · exact .inr ⟨z.1, fun b hb => absurd (z.2 b hb) (by simp)⟩
              · exact .inr z
            have at2 : ∀ s0 Hs0 Ca cl fp, At C (S.blk scope) (X.blk s0 Hs0 scope (compEnvC scope cl Ca X.env) fp) H₀ _ δ' σ2 nd2 (upd Hx D (.lst acc)) := fun s0 Hs0 Ca cl fp => ⟨at_.G.blk s0 Hs0 scope cl Ca fp, sv2⟩
            -- the end of a turn that keeps nothing
            have skip : ∀ H3, Same (upd Hx D (.lst acc)) H3 → KF X.K H3 → o = none → ∃ Hx acc, H3 = upd Hx D (.lst acc) ∧ Hx D = none ∧ Same H1 Hx ∧ acc.length ≤ i + 1 ∧ (KF X.K H3 → VlL X.K H₀ H1 Hx (nd ++ [([], sI)]) (compW T U) ((os.take (i + 1)).filterMap id) acc) := fun H3 s3 kf3 hon => by
              have hD3 := s3 D _ upd_same
              refine ⟨fun b => if b = D then none else H3 b, acc, upd_eq hD3, if_pos rfl, fun b ob e => ?_, by omega, fun _ => ?_⟩
              · have ne : b ≠ D := fun z => by rw [z, hD] at e; cases e
                show (if b = D then none else H3 b) = some ob
                rw [if_neg ne]
                exact s3 b ob (s1 b ob e)
              · rw [take_fm os i o ho, hon]
                show VlL _ _ _ _ _ _ ((os.take i).filterMap id ++ []) acc
                rw [List.append_nil]
                obtain ⟨ov, sv, r, rest⟩ := VL
                refine ⟨ov, sv, RwL.same (fun b ob e => ?_) _ r, rest⟩
                have ne : b ≠ D := fun z => by rw [z, hDx] at e; cases e
                show (if b = D then none else H3 b) = some ob
                rw [if_neg ne]
                exact s3 b ob ((upd_ne ne).trans e)
            intro s5 Hs5 Ca5 cl5 fp5
            have G5 := at2 s5 Hs5 Ca5 cl5 fp5
            refine ihc.hC G5 pifs hcc eC _ ?_
            cases qc : evc cnd δ' with
            | ex e => rw [qc] at hf; cases hf
            | no => rw [qc] at hf; cases hf
            | ok c =>
              rw [qc] at hf
              intro H3 s3 kf3
              have kf3 : KF X.K H3 := kf3
              cases c with
              | false =>
                have hf : (R.ok none : R (Option PyData)) = .ok o := hf
                rw [if_neg Bool.false_ne_true]
                exact skip H3 s3 kf3 (R.ok.inj hf).symm
              | true =>
                rw [if_pos rfl]
                have hf : (ev elt δ' >>= fun y => .ok (some y)) = R.ok o := hf
                intro s6 Hs6 Ca6 cl6 fp6
                have G6 := (at2 s6 Hs6 Ca6 cl6 fp6).grow s3 kf3
                refine ihe.hE G6 pe hce U eU _ ?_
                cases qe : ev elt δ' with
                | ex e => rw [qe] at hf; cases hf
                | no => rw [qe] at hf; cases hf
                | ok y =>
                  rw [qe] at hf
                  have hoy : some y = o := R.ok.inj hf
                  subst hoy
                  intro H4 s4 kf4 yv vy
                  have kf4 : KF X.K H4 := kf4
                  have vy : Vl X.K H₀ H3 H4 nd2 U y yv := vy
                  have hD3 := s3 D _ upd_same
                  have hD4 := s4 D _ hD3
                  refine ⟨acc, hD4, by omega, fun b => if b = D then none else H4 b, acc ++ [yv], ?_, if_pos rfl, fun b ob e => ?_, by rw [List.length_append]; simp; omega, fun _ => ?_⟩
                  · funext b
                    unfold upd
                    by_cases e : b = D
                    · rw [if_pos e, if_pos e]
                    · rw [if_neg e, if_neg e]
                      show H4 b = if b = D then none else H4 b
                      rw [if_neg e]
                  · have ne : b ≠ D := fun z => by rw [z, hD] at e; cases e
                    show (if b = D then none else H4 b) = some ob
                    rw [if_neg ne]
                    exact s4 b ob (s3 b ob (s1 b ob e))
                  · -- the new item's nodes are not the list
                    rw [take_fm os i _ ho]
                    have sxe : Same Hx (fun b => if b = D then none else H4 b) := fun b ob e => by
                      have ne : b ≠ D := fun z => by rw [z, hDx] at e; cases e
                      show (if b = D then none else H4 b) = some ob
                      rw [if_neg ne]
                      exact s4 b ob (s3 b ob ((upd_ne ne).trans e))
                    have new3 : ∀ b, New X.K H3 b → New X.K Hx b := fun b n => (n.back s3).back (same_upd hDx)
                    have neD3 : ∀ b, New X.K H3 b → b ≠ D := fun b n z => by
                      have := n.1
                      rw [z, hD3] at this
                      cases this
                    have slotOld : ∀ (j : Nat) (p : List Addr × List Addr), nd[j]? = some p → ∀ b, b ∈ p.1 ∨ b ∈ p.2 → b ≠ D := fun j p hp b hb z => by
                      refine at_.sv.old j p hp b hb ?_
                      rw [z]
                      exact newD.back (e1.trans sx)
                    obtain ⟨oy, sy, ry, ny, hoy, hsy, hay⟩ := Vl.nm (sv2.sm.trans s3) vy
                    have far : ∀ b, b ∈ oy ∨ b ∈ sy → b ≠ D := fun b hb => by
                      rcases hb with hb | hb
                      · exact neD3 b (hoy b hb).1
                      · rcases hsy b hb with z | ⟨j, p, hp, hb2⟩
                        · exact neD3 b z
                        · rcases hnd2 j p hp with z | ⟨z1, z2⟩
                          · exact slotOld j p z b (hb2.elim .inr fun q => .inl q.2)
                          · rcases hb2 with hb2 | hb2
                            · intro e
                              refine oldI b (l2.subset (z2 b hb2)) ?_
                              rw [e]
                              exact newD.back sx
                            · rw [z1] at hb2; exact nomatch hb2.2
                    have ry2 : Rw X.K (fun b => if b = D then none else H4 b) y U.nm yv oy sy := by
                      refine Rw.frame (fun b zs hb => ?_) y (fun b hb => if_neg (far b hb)) ry
                      have ne : b ≠ D := fun z => by
                        rcases hb with hb | ⟨ob, hb⟩ <;> (rw [z, hD4] at hb; cases hb)
                      rcases hb with hb | ⟨ob, hb⟩
                      · exact .inl ((if_neg ne).trans hb)
                      · exact .inr ⟨ob, (if_neg ne).trans hb⟩
                    have vy2 : VlL X.K H₀ Hx (fun b => if b = D then none else H4 b) (nd ++ [([], sI)]) (compW T U) [y] [yv] := by
                      have clo : ∀ b, b ∈ sy → New X.K Hx b ∨ ∃ i p, (nd ++ [([], sI)])[i]? = some p ∧ (b ∈ p.2 ∨ (i ∈ U.B ++ T.B ∧ b ∈ p.1)) := fun b hb => by
                        rcases hsy b hb with z | ⟨j, p, hp, hb2⟩
                        · exact .inl (new3 b z)
                        · rcases hnd2 j p hp with z | ⟨z1, z2⟩
                          · exact .inr ⟨j, p, ndl j p z, hb2.imp id fun q => ⟨List.mem_append_left _ q.1, q.2⟩⟩
                          · rcases hb2 with hb2 | hb2
                            · exact .inr ⟨nd.length, _, ndx, .inl (l2.subset (z2 b hb2))⟩
                            · rw [z1] at hb2; exact nomatch hb2.2
                      by_cases cU : U.nm = .F
                      · rw [show compW T U = .fr from if_pos cU]
                        rw [cU] at ry2
                        have es := Rw.f_s _ ry2
                        subst es
                        exact ⟨oy, [], RwL.one ry2, ny, fun b hb => ⟨new3 b (hoy b hb).1, by simp⟩, by simp, by simp⟩
                      · obtain ⟨p, qs, r3, l3⟩ := Rw.less y (Ty.le_S _) ry2
                        have ep := Rw.s_o _ r3
                        subst ep
                        have enm : (compW T U).nm = .S := by rw [compW_nm, if_neg cU]
                        refine ⟨[], qs, by rw [enm]; exact RwL.one r3, List.nodup_nil, by simp, fun b hb => ?_, fun ea b hb => ?_⟩
                        · rw [show compW T U = ⟨.S, U.B ++ T.B, U.a⟩ from if_neg cU]
                          rcases l3.mem hb with z | z
                          · exact .inl (new3 b (hoy b z).1)
                          · exact clo b z
                        · rw [show compW T U = ⟨.S, U.B ++ T.B, U.a⟩ from if_neg cU] at ea
                          rcases l3.mem hb with z | z
                          · exact (hoy b z).1.back (sv2.sm.trans s3)
                          · exact hay ea b z
                    have vap := VlL.append (at_.sv.sm.trans e1) sx sxe hold VL vy2
                    by_cases cU : U.nm = .F
                    · rw [show compW T U = .fr from if_pos cU] at vap ⊢
                      exact vap
                    · rw [show compW T U = ⟨.S, U.B ++ T.B, U.a⟩ from if_neg cU] at vap ⊢
                      refine VlL.less (at_.sv.sm.trans e1) (fun i z => ?_) (fun z => ?_) (Ty.le_S _) (by unfold Tv.nm; split <;> rfl) vap
                      · have z : i ∈ (U.B ++ T.B) ++ (U.B ++ T.B) := z
                        exact (List.mem_append.mp z).elim id id
                      · show (U.a || U.a) = false
                        rw [z]; rfl
      · -- the end
        have ei : i = vs.length := by omega
        subst ei
        refine .inl ⟨hJ.stop _ hSti, fun kfi => ?_⟩
        obtain ⟨kfx, newD⟩ := kf_erase kfi hDx
        have VL := hVl kfi
        have et : os.take vs.length = os := List.take_of_length_le (by omega)
        rw [et] at VL
        refine h _ s1 kfi _ ?_
        obtain ⟨ov, sv, r, nv, hov, hsv, hav⟩ := VL
        have hv2 : VlL X.K H₀ H Hx nd (compW T U) (os.filterMap id) acc := by
          refine ⟨ov, sv, r, nv, fun b hb => ⟨(hov b hb).1.back e1, (hov b hb).2⟩, fun b hb => ?_, hav⟩
          have hB : ∀ i ∈ T.B, b ∈ sI → i ∈ (compW T U).B ∨ U.nm = .F := fun i hi _ => by
            by_cases cU : U.nm = .F
            · exact .inr cU
            · left; rw [show compW T U = ⟨.S, U.B ++ T.B, U.a⟩ from if_neg cU]; exact List.mem_append_right _ hi
          have noF : U.nm ≠ .F := fun cU => by
            rw [compW_nm, if_pos cU] at r
            rw [RwL.f_s _ r] at hb
            exact nomatch hb
          rcases hsv b hb with z | ⟨j, p, hp, hb2⟩
          · exact .inl (z.back e1)
          · rcases ndr j p hp with z | ⟨_, z⟩
            · exact .inr ⟨j, p, z, hb2⟩
            · subst z
              have hb3 : b ∈ sI := hb2.resolve_right (by simp)
              rcases hsI b hb3 with z | ⟨k, p, hp, hb4⟩
              · exact .inl z
              · exact .inr ⟨k, p, hp, hb4.imp id fun q => ⟨(hB k q.1 hb3).resolve_right noF, q.2⟩⟩
        have e1x : Same H Hx := e1.trans sx
        have fin := Vl.newLst at_.sv.sm e1x hDx kfi hv2 at_.sv.old
        rw [compW_nm] at fin
        unfold compT
        by_cases cU : U.nm = .F
        · rw [if_pos cU]
          rw [if_pos (by rw [if_pos cU])] at fin
          exact fin
        · rw [if_neg cU]
          rw [if_neg (by rw [if_neg cU]; exact nofun), if_neg cU] at fin
          rw [show compW T U = ⟨.S, U.B ++ T.B, U.a⟩ from if_neg cU] at fin
          exact fin
end
end VS
set_option Elab.async false
set_option linter.all false
set_option maxRecDepth 100000
namespace VS
open PySem PySem.Spec L2
open PyProof.Rows hiding St
section
variable {prog : Program} {wd : World} {Ar : Around} {Er : Value → Shared → Prop} {Rr : Result → Shared → Prop} {Ia : Addr} {fp wr : List Addr} {Gs : Array GenState → Array GenState → Prop} {n : Nat} {Pv : Nat → Value → Prop} {Stp : Nat → Shared → Prop}
/-- the members after i turns -/
def got (val : Nat → Int) (i : Nat) (k : Int) : Bool := (firstMet val i).any (· == k)
theorem setR_upd (Wk : WalksS prog wd Ar.in1 Ia fp wr Gs n Pv Stp) (Sa : Addr) (hSf : Sa ∉ fp)
    (val : Nat → Int) (hv : ∀ i v, Pv i v → ∃ t, v = .int (val i) t) (hb : n + 1 < scanBound) :
    ∀ (k i : Nat) (sh : Shared), n - i = k → i ≤ n → Stp i sh → SetR wd sh.heap Sa (got val i) (firstMet val i).length →
      (∀ sh', Moved (Sa :: wr) Gs sh sh' → SetR wd sh'.heap Sa (got val n) (firstMet val n).length → Rr (.ok (.ret .none)) sh') →
      codeAny (model prog wd) Ar (.builtin "set.update.loop" ⟨[.ref Sa, .ref Ia], []⟩) Rr sh := by
  have out : Sa ∉ wr := fun z => hSf (Wk.sub _ z)
  have more : ∀ b ∈ wr, b ∈ Sa :: wr := fun b z => .tail _ z
  intro k
  induction k with
  | zero =>
    intro i sh e1 e2 st R fin
    have e3 : n = i := by omega
    subst e3
    refine codeAny_builtin F.entry_set_update_loop ?_
    rw [Around.under_plainId F.plain_set_update_loop _]
    refine show wpAny _ Ar.in1 (pyNext (.ref Ia) >>= _) _ _ sh from wpAny_bind (Wk.done sh _ _ st fun sh' mo => ?_)
    exact show wpAny _ Ar.in1 (ret Value.none) _ _ sh' from wpAny_pure (fin sh' (mo.mono more) (R.at fun o ho => mo.heap Sa o out ho))
  | succ k ih =>
    intro i sh e1 e2 st R fin
    have lt : i < n := by omega
    refine codeAny_builtin F.entry_set_update_loop ?_
    rw [Around.under_plainId F.plain_set_update_loop _]
    refine show wpAny _ Ar.in1 (pyNext (.ref Ia) >>= _) _ _ sh from wpAny_bind (Wk.item i sh _ _ lt st fun v sh' pv st' mo => ?_)
    obtain ⟨tk, rfl⟩ := hv i v pv
    have R1 : SetR wd sh'.heap Sa (got val i) (firstMet val i).length := R.at fun o ho => mo.heap Sa o out ho
    refine show wpAny _ Ar.in1 (holding [Value.int (val i) tk] (setAdd Sa (.int (val i) tk)) >>= _) _ _ sh' from wpAny_bind (wpAny_holding ?_)
    unfold setAdd
    refine wpAny_holding (wpAny_bind ((intKind prog wd).pyHash (k := val i) (intKind_is _ _ _ _) ?_))
    have room : (firstMet val i).length + 1 < scanBound := by have := firstMet_length_le val i; omega
    refine setR_add_hashed (P := prog) (s := { sh' with toks := sh'.toks + 1 }) (k := val i) (tk := tk) R1 room fun h2 sb R2 => ?_
    have R3 : SetR wd h2 Sa (got val (i + 1)) (firstMet val (i + 1)).length := by
      have e4 : (if got val i (val i) = true then (firstMet val i).length else (firstMet val i).length + 1) = (firstMet val (i + 1)).length := by
        rw [firstMet_succ, step_length]; rfl
      rw [e4] at R2
      refine R2.congr fun k' => ?_
      show (firstMet val (i + 1)).any (· == k') = _
      rw [firstMet_succ, step_any]; rfl
    refine wpAny_pure ⟨plainId_quiet F.plain_set_update_loop _, ih (i + 1) _ (by omega) lt (Wk.frame _ sh' _ _ st' (Nat.le_succ _) fun b z o e => ?_) R3 fun sh2 mo2 R4 => ?_⟩
    · exact (sb.2 b fun z2 => hSf (by rw [← z2]; exact z)) ▸ e
    · refine fin sh2 (Moved.trans Wk.gtrans ((mo.mono more).then_heap (Nat.le_succ _) fun b o z e => ?_) mo2) R4
      exact (sb.2 b fun z2 => z (by rw [z2]; exact .head _)) ▸ e
end
/-- a set just made; a walk over the list at l -/
abbrev set0O (wd : World) : Obj := { cls := .type "set", dict := none, data := .set #[] 0 (.fresh 0 0 (!wd.params.followText "set-order")) }
abbrev curO (l : Addr) : Obj := { cls := .type "list_iterator", data := .fields #[.ref l, .int 0 0] }
section
variable {prog : Program} {wd : World} {Ar : Around} {Er : Value → Shared → Prop} {sh : Shared}
set_option maxHeartbeats 4000000 in
theorem call_setR {l : Addr} {its : Array Value} {ns : List Int} {Q : Value → Shared → Prop} (hh : Ar.handled = none) (hl : sh.heap.IsList l its) (hi : IntsAre its.toList ns) (hb : its.size + 1 < scanBound)
    (fin : ∀ (h' : Heap) (tk : Nat), SetR wd h' sh.heap.objs.size (got (fun i => ns.getD i 0) its.size) (firstMet (fun i => ns.getD i 0) its.size).length →
      (∀ b o, sh.heap.get? b = some o → h'.get? b = some o) → Q (.ref sh.heap.objs.size) { sh with heap := h', toks := tk }) :
    wpAny (model prog wd) Ar (call (.type "set") [.ref l]) Q Er sh := by
  obtain ⟨cl, tl, mro1⟩ := PySem.F.called_set.mro
  have z1 := PySem.F.called_set.made; have z2 := PySem.F.called_set.sub
  refine wpAny_call (codeAny_of_tree (show wpAny _ _ (callAny (.type "set") _) _ _ _ from wpAny_pure ⟨Code.quiet_builtin _ (by decide +kernel), codeAny_builtin PySem.F.entry_type_call ?_⟩))
  rw [Around.under_plain (weight_type_call_type "set" [.ref l] []) rfl]
  have z3 := PySem.F.called_set.notType; have z4 := PySem.F.called_set.canCreate
  have z5 := PySem.F.typeCall_set_1 (.ref l)
  repeat (any_goals (first | assumption | wp_step))
  refine codeAny_mono (code_set_led1 (.ref l) (E := Er) (Q₁ := fun ob t1 => ob = .ref sh.heap.objs.size ∧ t1 = { sh with heap := sh.heap.push (set0O wd) }) ⟨rfl, rfl⟩) fun r t1 hr => ?_
  cases r with
  | error e => exact hr
  | ok fl =>
    cases fl with
    | ret ob =>
      obtain ⟨rfl, rfl⟩ := hr
      have gS : (sh.heap.push (set0O wd)).get? sh.heap.objs.size = some (set0O wd) := Heap.get?_push_size _ rfl
      have tS : Shared.TypeIs { sh with heap := sh.heap.push (set0O wd) } (.ref sh.heap.objs.size) "set" := ⟨_, gS, rfl⟩
      have z6 := PySem.F.called_set.init.lookup; have z7 := PySem.F.called_set.init.bind (.ref sh.heap.objs.size)
      repeat (any_goals (first | assumption | wp_step))
      refine codeAny_mono (codeAny_call_builtin (R := wants (fun rv t2 => rv = .none ∧ ∃ h' tk, t2 = { sh with heap := h', toks := tk } ∧ SetR wd h' sh.heap.objs.size (got (fun i => ns.getD i 0) its.size) (firstMet (fun i => ns.getD i 0) its.size).length ∧
          (∀ b o, sh.heap.get? b = some o → h'.get? b = some o)) Er) PySem.F.called_set.init.plain PySem.F.entry_set_init (check_set_init_1 tS ?_)) fun rv t2 hr2 => ?_
      · obtain ⟨⟨lc, ld, la, lsl⟩, gl, hcl, nl, hdl⟩ := hl
        simp only at hcl hdl
        subst hcl hdl
        have gl1 : (sh.heap.push (set0O wd)).get? l = some { cls := .type "list", dict := ld, data := .seq its nl, slots := lsl } := Heap.get?_push_of_some _ gl
        have z8 := PySem.F.sub_list_set; have z9 := PySem.F.sub_list_frozenset
        have zA : (Value.type "list" == Value.type "dict") = false := by decide
        have iL : (sh.heap.push (set0O wd)).IsList l its := ⟨_, gl1, rfl, nl, rfl⟩
        unfold Builtin.«set.__init__» noKeywords Builtin.Frozenset.updateFrom
        generalize hP : pyIter = PI0
        wp_walk
        subst hP
        refine wpAny_pyIter_list iL (wpAny_bind (wpAny_runValue ?_))
        have lS : l < sh.heap.objs.size := Heap.lt_size gl
        have h3 : Ar.in1.in1.in1.handled = none := by simp [hh]
        have sz1 : (sh.heap.push (set0O wd)).objs.size = sh.heap.objs.size + 1 := Heap.size_push ..
        have neI : l ≠ (sh.heap.push (set0O wd)).objs.size := fun z => Nat.lt_irrefl _ (Nat.lt_of_lt_of_le lS (by rw [z, Heap.size_push]; exact Nat.le_succ _))
        have apart : sh.heap.objs.size ∉ [(sh.heap.push (set0O wd)).objs.size, l] := by
          intro z
          rcases List.mem_cons.mp z with z | z
          · rw [Heap.size_push] at z
            exact Nat.lt_irrefl _ (Nat.lt_of_lt_of_eq (Nat.lt_succ_self _) z.symm)
          · exact Nat.lt_irrefl _ (Nat.lt_of_lt_of_eq lS (List.mem_singleton.mp z))
        have vals : ∀ (i : Nat) (v : Value), its[i]? = some v → ∃ t, v = .int ((fun i => ns.getD i 0) i) t := fun i v e => IntsAre.int_at hi i v (by rw [Array.getElem?_toList]; exact e)
        refine setR_upd ((Walks.list h3 _ l neI its).toS) sh.heap.objs.size apart (fun i => ns.getD i 0) vals hb (its.size - 0) 0 _ (by omega) (Nat.zero_le _) ⟨⟨_, Heap.get?_push_size _ rfl, rfl, rfl⟩, (iL.push _)⟩ ?c0 ?cR
        case c0 => exact (setR_fresh (h := sh.heap) wd).at fun o e => Heap.get?_push_of_some _ e
        case cR =>
          intro t3 mo R
          obtain ⟨h', g', d', tk', os'⟩ := t3
          have := mo.gens; have := mo.drawn; have := mo.os
          subst_vars
          refine show wpAny _ _ _ _ _ _ from wpAny_pure (show wpAny _ _ (ret Value.none) _ _ _ from wpAny_pure ⟨rfl, h', tk', ?_, R, fun b o e => ?_⟩)
          · simp_all
          · have bl := Heap.lt_size e
            refine mo.heap b o (fun z => ?_) (Heap.get?_push_of_some _ (Heap.get?_push_of_some _ e))
            rcases List.mem_cons.mp z with z | z
            · exact Nat.lt_irrefl _ (Nat.lt_of_lt_of_eq bl z.symm)
            · have z := List.mem_singleton.mp z
              rw [z, Heap.size_push] at bl
              exact Nat.lt_irrefl _ (Nat.lt_trans (Nat.lt_succ_self _) bl)
      · cases rv with
        | error e => exact hr2
        | ok fl2 =>
          cases fl2 with
          | ret rr =>
            obtain ⟨rfl, h', tk, rfl, R, kp⟩ := hr2
            repeat (any_goals (first | assumption | wp_step))
            exact fin _ _ R kp
          | _ => exact hr2.elim
    | _ => exact hr.elim
end
section
variable {X : Cx}
/-- set(xs), xs a list of whole numbers -/
def rSetI (K : PySem.W.Frag) (w : World) : List V → Hp → VK → Prop := fun xs H Q => ∃ (l : Addr) (ns : List Int), xs = [V.ref l] ∧ SqL K H l (ns.map V.int) ∧ ns.length < 4000 ∧
  ∀ a (S : Int → Bool) (n : Nat) (ms : List Int), H a = none → (∀ k, S k = true ↔ k ∈ ns) → ms.Nodup → (∀ k, k ∈ ms ↔ k ∈ ns) → ms.length = n → Q (.ref a) (upd H a (SetO w a S n))
theorem cr_setI (hc : X.calm = true) : CallR X (.type "set") (rSetI X.K X.w) := by
  intro pins s σ H xs us Q I r h
  obtain ⟨l, ns, rfl, hl, hf, q⟩ := h
  rw [Vals.ref1 r]
  obtain ⟨its, rv, pl, hz⟩ := I.list hl
  have n0 : H s.heap.objs.size = none := I.hok.fresh (Nat.le_refl _)
  have len : its.toArray.size = ns.length := by rw [List.size_toArray, ← rv.length, List.length_map]
  refine call_setR (prog := X.prog) (wd := X.w) (ns := ns) (I.ok.hd hc) pl.isList (by simpa using RZ.intsAre_vals rv) (by rw [len]; unfold scanBound; omega) fun h' tk R kp => ?_
  rw [len] at R
  have hS : ∀ k, got (fun i => ns.getD i 0) ns.length k = true ↔ k ∈ ns := fun k => by
    unfold got
    rw [firstMet_any, List.any_eq_true]
    constructor
    · rintro ⟨x, hx, e⟩
      obtain ⟨i, hi, rfl⟩ := List.mem_map.mp hx
      have hi := List.mem_range.mp hi
      have e := eq_of_beq e
      rw [List.getD_eq_getElem?_getD, List.getElem?_eq_getElem hi] at e
      exact e ▸ List.getElem_mem hi
    · intro hk
      obtain ⟨i, hi, e⟩ := List.mem_iff_getElem.mp hk
      refine ⟨_, List.mem_map.mpr ⟨i, List.mem_range.mpr hi, rfl⟩, ?_⟩
      rw [List.getD_eq_getElem?_getD, List.getElem?_eq_getElem hi]
      exact beq_iff_eq.mpr e
  obtain ⟨o, es, ep, tb, r1, r2, r3, r4, r5, r6, r7, r8, r9, r10⟩ := R
  exact ⟨.ref s.heap.objs.size, upd H s.heap.objs.size (SetO X.w s.heap.objs.size (got (fun i => ns.getD i 0) ns.length) (firstMet (fun i => ns.getD i 0) ns.length).length), I.laid (t' := tk) kp (Nat.le_refl _) (setO_new ⟨o, es, ep, tb, r1, r2, r3, r4, r5, r6, r7, r8, r9, r10⟩), rfl, q _ _ _ (es.toList.map keyOf) n0 hS r5 (fun k => (r6 k).symm.trans (hS k)) (by rw [List.length_map, Array.length_toList]; exact r9)⟩
end
end VS
set_option Elab.async false
set_option linter.all false
set_option maxRecDepth 100000
namespace VS
open PySem PySem.Spec L2
open PyProof.Rows hiding St
/-! ### pairs in order: what the machine does -/
def rSortPT (K : PySem.W.Frag) : List V → Hp → VK → Prop := fun vs H Q => ∃ (a : Addr) (xs : List V) (k : V → Int × Int), vs = [V.ref a] ∧ SqL K H a xs ∧ (∀ x ∈ xs, ∃ t, x = V.ref t ∧ SqT K H t [.int (k x).1, .int (k x).2]) ∧
  ∀ ys p, SrtO.Srtd (ltP k) ys → ys.Perm xs → H p = none → Q (.ref p) (upd H p (.lst ys))
theorem cr_sortPT {X : Cx} : CallR X (.builtin "sorted") (rSortPT X.K) := by
  intro pins s σ H vs us Q I r h
  obtain ⟨a, xs, k, rfl, hs, hx, q⟩ := h
  obtain ⟨its, rv, hl, hz⟩ := I.list hs
  obtain ⟨u, rfl, ru⟩ := vals1 r
  obtain rfl : u = Value.ref a := ru
  obtain ⟨e1, e2⟩ := refs_back rv fun x m => by
    obtain ⟨t, e, _⟩ := hx x m
    exact ⟨t, e⟩
  refine SrtO.sorted_pairsO (k := fun u => k (backV u)) hl.isList (by rw [← rv.length]; exact hz) (fun v hv => ?_) fun h' d out h1 h2 kp hd hn => ?_
  · obtain ⟨t, rfl⟩ := e2 v hv
    have hm : V.ref t ∈ xs := by rw [e1]; exact List.mem_map.mpr ⟨_, hv, rfl⟩
    obtain ⟨t', e, ht⟩ := hx _ hm
    cases e
    obtain ⟨its2, r2, ⟨o, ho, hc, n, hd⟩, _⟩ := I.tuple ht
    obtain ⟨u1, u2, rfl, ri, rj⟩ := vals2 r2
    obtain ⟨t1, rfl⟩ := ri
    obtain ⟨t2, rfl⟩ := rj
    exact ⟨t, o, t1, t2, n, rfl, ho, hc, hd⟩
  · have h3 : ∀ u ∈ out, ∃ a, u = Value.ref a := fun u hu => e2 u (h2.perm.mem_iff.mp hu)
    obtain ⟨n, hn⟩ := hn
    have hb : SrtO.Stb (ltP k) (out.map backV) xs := by
      rw [e1]
      exact SrtO.Stb.map (ltP_swo k) backV h2
    refine ⟨.ref d, upd H d (.lst (out.map backV)), I.laid (t' := s.toks) kp hd ⟨?_, out, n, vals_back h3, hn⟩, rfl, q _ d (SrtO.srtd_map h1) hb.perm (I.hok.fresh hd)⟩
    rw [hb.len]
    have := I.list hs
    obtain ⟨_, _, _, h⟩ := this
    exact h
/-! ### pairs in order: plain -/
theorem lexI_iff {p q : Int × Int} : lexI p q = true ↔ p.1 < q.1 ∨ (p.1 = q.1 ∧ p.2 ≤ q.2) := by
  unfold lexI; exact decide_eq_true_iff
theorem lexI_tot {p q : Int × Int} (h : lexI p q = false) : lexI q p = true := by
  have : ¬ (p.1 < q.1 ∨ (p.1 = q.1 ∧ p.2 ≤ q.2)) := fun z => by rw [lexI_iff.mpr z] at h; cases h
  rw [lexI_iff]; omega
theorem lexI_tr {p q r : Int × Int} (h1 : lexI p q = true) (h2 : lexI q r = true) : lexI p r = true := by
  rw [lexI_iff] at *; omega
theorem lexI_anti {p q : Int × Int} (h1 : lexI p q = true) (h2 : lexI q p = true) : p = q := by
  rw [lexI_iff] at *
  exact Prod.ext (by omega) (by omega)
theorem insP_perm (x : Int × Int) : ∀ l, (insP x l).Perm (x :: l)
  | [] => .refl _
  | y :: l => by
    unfold insP
    split
    · exact .refl _
    · exact ((insP_perm x l).cons y).trans (.swap x y l)
theorem srtP_perm : ∀ l, (srtP l).Perm l
  | [] => .refl _
  | x :: l => (insP_perm x _).trans ((srtP_perm l).cons x)
theorem insP_sorted (x : Int × Int) : ∀ l : List (Int × Int), l.Pairwise (fun p q => lexI p q = true) → (insP x l).Pairwise (fun p q => lexI p q = true)
  | [], _ => List.pairwise_singleton _ _
  | y :: l, h => by
    obtain ⟨h1, h2⟩ := List.pairwise_cons.mp h
    unfold insP
    split
    · rename_i c
      refine List.pairwise_cons.mpr ⟨fun z hz => ?_, h⟩
      rcases List.mem_cons.mp hz with rfl | hz
      · exact c
      · exact lexI_tr c (h1 z hz)
    · rename_i c
      refine List.pairwise_cons.mpr ⟨fun z hz => ?_, insP_sorted x l h2⟩
      rcases List.mem_cons.mp ((insP_perm x l).mem_iff.mp hz) with rfl | hz
      · exact lexI_tot (by cases e : lexI z y <;> simp_all)
      · exact h1 z hz
theorem srtP_sorted : ∀ l, (srtP l).Pairwise (fun p q => lexI p q = true)
  | [] => .nil
  | x :: l => insP_sorted x _ (srtP_sorted l)
theorem pairs_uniq : ∀ {l m : List (Int × Int)}, l.Perm m → l.Pairwise (fun p q => lexI p q = true) → m.Pairwise (fun p q => lexI p q = true) → l = m
  | [], m, p, _, _ => p.nil_eq
  | x :: l, [], p, _, _ => absurd p.symm.nil_eq (by simp)
  | x :: l, y :: m, p, h1, h2 => by
    obtain ⟨a1, a2⟩ := List.pairwise_cons.mp h1
    obtain ⟨b1, b2⟩ := List.pairwise_cons.mp h2
    have e : x = y := by
      have h3 : x ∈ y :: m := p.mem_iff.mp List.mem_cons_self
      have h4 : y ∈ x :: l := p.mem_iff.mpr List.mem_cons_self
      rcases List.mem_cons.mp h3 with h3 | h3
      · exact h3
      · rcases List.mem_cons.mp h4 with h4 | h4
        · exact h4.symm
        · exact lexI_anti (a1 y h4) (b1 x h3)
    subst e
    rw [pairs_uniq (p.cons_inv) a2 b2]
/-- the pair that a value is -/
theorem rwl_pairs {K : PySem.W.Frag} {H : Hp} : ∀ {ds : List D} {t : Ty} {vs : List V} {o s : List Addr} {l : List (Int × Int)}, RwL K H ds t vs o s → pairsD ds = .ok l →
    ds = l.map pairP ∧ l.length = vs.length ∧ ∀ (i : Nat) (p : Int × Int), l[i]? = some p → ∃ a, vs[i]? = some (.ref a) ∧ SqT K H a [.int p.1, .int p.2]
  | [], t, vs, o, s, l, r, h => by
    rw [rwl_nil] at r
    obtain ⟨rfl, _, _⟩ := r
    cases h
    exact ⟨rfl, rfl, by simp⟩
  | d :: ds, t, vs, o, s, l, r, h => by
    rw [rwl_cons] at r
    obtain ⟨v, vs', o1, s1, o2, s2, rfl, rfl, rfl, r1, r2⟩ := r
    unfold pairsD at h
    split at h
    · cases ‹d :: ds = []›
    · rename_i i j ds' e
      cases e
      cases q : pairsD ds with
      | ex x => rw [q] at h; cases h
      | no => rw [q] at h; cases h
      | ok l2 =>
      rw [q] at h
      cases h
      obtain ⟨e1, e2, e3⟩ := rwl_pairs r2 q
      rw [rw_tup] at r1
      obtain ⟨a, ws, rfl, ht, hw⟩ := r1
      rw [rwl_cons] at hw
      obtain ⟨w1, ws, _, _, _, _, rfl, _, _, h1, hw⟩ := hw
      rw [rwl_cons] at hw
      obtain ⟨w2, ws, _, _, _, _, rfl, _, _, h2, hw⟩ := hw
      rw [rwl_nil] at hw
      obtain ⟨rfl, _, _⟩ := hw
      rw [rw_int] at h1 h2
      obtain ⟨rfl, _⟩ := h1
      obtain ⟨rfl, _⟩ := h2
      refine ⟨by rw [e1]; rfl, by simp [e2], fun k p hp => ?_⟩
      cases k with
      | zero => cases hp; exact ⟨a, rfl, ht⟩
      | succ k => exact e3 k p hp
    · cases h
theorem rw_pairP {K : PySem.W.Frag} {H : Hp} {a : Addr} {p : Int × Int} {t : Ty} (h : SqT K H a [.int p.1, .int p.2]) : Rw K H (pairP p) t (.ref a) [] [] :=
  rw_tup.mpr ⟨a, _, rfl, h, rwl_cons.mpr ⟨_, _, [], [], [], [], rfl, rfl, rfl, rw_int.mpr ⟨rfl, rfl, rfl⟩, rwl_cons.mpr ⟨_, _, [], [], [], [], rfl, rfl, rfl, rw_int.mpr ⟨rfl, rfl, rfl⟩, rwl_nil.mpr ⟨rfl, rfl, rfl⟩⟩⟩⟩
/-- the pair at an address -/
noncomputable def pairOf (K : PySem.W.Frag) (H : Hp) (v : V) : Int × Int := open Classical in if h : ∃ p : Int × Int, ∃ a, v = .ref a ∧ SqT K H a [.int p.1, .int p.2] then h.choose else (0, 0)
theorem vals_uniqP : ∀ {vs ws : List V} {us : List Value}, Vals vs us → Vals ws us → vs = ws
  | _, _, _, .nil, .nil => rfl
  | _, _, _, .cons h1 t1, .cons h2 t2 => by
    have := h1.abs.symm.trans h2.abs
    cases this
    rw [vals_uniqP t1 t2]
theorem sq_oneP {K : PySem.W.Frag} {H : Hp} {a : Addr} {vs ws : List V} (kf : KF K H) (h : SqT K H a vs) (q : SqT K H a ws) : vs = ws := by
  rcases h with ((h | ⟨o1, h⟩) | ⟨o1, i1, r1, h, hc, hd, _, hv⟩) <;>
  rcases q with ((q | ⟨o, q⟩) | ⟨o, its, r, q, qc, qd, _, qv⟩) <;>
  first
  | (rw [h] at q; cases q; done)
  | (rw [h] at q; cases q; rfl)
  | (rw [kf.1 _ _ q] at h; cases h; done)
  | (rw [kf.1 _ _ h] at q; cases q; done)
  | (rw [h] at q; cases q; rw [hd] at qd; cases qd; exact vals_uniqP hv qv)
theorem sqt_ints {K : PySem.W.Frag} {H : Hp} {a : Addr} {p q : Int × Int} (h1 : SqT K H a [.int p.1, .int p.2]) (h2 : SqT K H a [.int q.1, .int q.2]) (kf : KF K H) : p = q := by
  have := sq_oneP kf h1 h2
  injection this with e1 e2
  injection e2 with e2 _
  injection e1 with e1
  injection e2 with e2
  exact Prod.ext e1 e2
theorem pairOf_eq {K : PySem.W.Frag} {H : Hp} {a : Addr} {p : Int × Int} (kf : KF K H) (h : SqT K H a [.int p.1, .int p.2]) : pairOf K H (.ref a) = p := by
  unfold pairOf
  have ex : ∃ p : Int × Int, ∃ a', V.ref a = .ref a' ∧ SqT K H a' [.int p.1, .int p.2] := ⟨p, a, rfl, h⟩
  rw [dif_pos ex]
  obtain ⟨a', e, h'⟩ := ex.choose_spec
  cases e
  exact sqt_ints h' h kf
theorem rwl_map {K : PySem.W.Frag} {H : Hp} {t : Ty} {k : V → Int × Int} : ∀ {ys : List V}, (∀ y ∈ ys, ∃ a, y = .ref a ∧ SqT K H a [.int (k y).1, .int (k y).2]) → RwL K H ((ys.map k).map pairP) t ys [] []
  | [], _ => rwl_nil.mpr ⟨rfl, rfl, rfl⟩
  | y :: ys, h => by
    obtain ⟨a, rfl, h1⟩ := h y List.mem_cons_self
    exact rwl_cons.mpr ⟨_, ys, [], [], [], [], rfl, rfl, rfl, rw_pairP h1, rwl_map fun z hz => h z (List.mem_cons_of_mem _ hz)⟩
/-- sorted pairs, as data -/
theorem sorted_data {K : PySem.W.Frag} {H : Hp} (kf : KF K H) {ds : List D} {t : Ty} {vs : List V} {o s : List Addr} {l : List (Int × Int)} (r : RwL K H ds t vs o s) (e : pairsD ds = .ok l) :
    (∀ x ∈ vs, ∃ a, x = .ref a ∧ SqT K H a [.int (pairOf K H x).1, .int (pairOf K H x).2]) ∧
    ∀ ys, SrtO.Srtd (ltP (pairOf K H)) ys → ys.Perm vs → RwL K H ((srtP l).map pairP) .F ys [] [] := by
  obtain ⟨_, e2, e3⟩ := rwl_pairs r e
  have h1 : ∀ x ∈ vs, ∃ a, x = .ref a ∧ SqT K H a [.int (pairOf K H x).1, .int (pairOf K H x).2] := by
    intro x hx
    obtain ⟨i, hi, e⟩ := List.mem_iff_getElem.mp hx
    obtain ⟨a, h, h2⟩ := e3 i l[i] (by simp [e2, hi])
    have : vs[i]? = some x := by rw [← e]; simp [hi]
    rw [this] at h
    cases h
    exact ⟨a, rfl, by rw [pairOf_eq kf h2]; exact h2⟩
  refine ⟨h1, fun ys so pm => ?_⟩
  have hl : vs.map (pairOf K H) = l := by
    refine List.ext_getElem (by simp [e2]) fun i h2 h3 => ?_
    obtain ⟨a, h, h4⟩ := e3 i l[i] (by simp [h3])
    rw [List.getElem_map]
    have : vs[i]? = some vs[i] := by simp
    rw [this] at h
    rw [Option.some.inj h]
    exact pairOf_eq kf h4
  have e4 : ys.map (pairOf K H) = srtP l := by
    refine pairs_uniq (((pm.map _).trans (by rw [hl])).trans (srtP_perm l).symm) ?_ (srtP_sorted l)
    refine List.pairwise_map.mpr (so.imp fun {x y} h => ?_)
    have h := SrtO.lexB_no.mp h
    rw [lexI_iff]
    omega
  rw [← e4]
  exact rwl_map fun y hy => h1 y (pm.mem_iff.mp hy)
end VS
set_option Elab.async false
set_option linter.all false
set_option maxRecDepth 100000
namespace VS
open PySem PySem.Spec L2
open PyProof.Rows hiding St
/-! ### small things: what the machine does -/
def p1T (X : Cx) : P1 → V → Hp → VK → Prop
  | .srt, x, H, Q => rSortedI X.K [x] H Q
  | .srs, x, H, Q => rSetI X.K X.w [x] H fun y H1 => rSortedSet X.w [y] H1 Q
  | .srp, x, H, Q => rSortPT X.K [x] H Q
  | .lrg, x, H, Q => ∃ n, x = .int n ∧ RgOk 0 n ∧ ∀ q, H q = none → Q (.ref q) (upd H q (.lst (rgV 0 n)))
def p2T (X : Cx) : P2 → V → V → Hp → VK → Prop
  | .lrg, x, y, H, Q => ∃ m n, x = .int m ∧ y = .int n ∧ RgOk m n ∧ ∀ q, H q = none → Q (.ref q) (upd H q (.lst (rgV m n)))
theorem p1A_call {nb : List Str} {S : Scp} {P : P1} {p pa : Expr} (h : p1A nb S P p = some pa) : ∃ f ps pos, p = .Call f ps [] pos := by
  unfold p1A at h
  split at h <;> first | exact ⟨_, _, _, rfl⟩ | cases h
theorem p2A_call {nb : List Str} {S : Scp} {P : P2} {p : Expr} {pq : Expr × Expr} (h : p2A nb S P p = some pq) : ∃ f ps pos, p = .Call f ps [] pos := by
  unfold p2A at h
  split at h <;> first | exact ⟨_, _, _, rfl⟩ | cases h
theorem ifS {α : Type} {c : Bool} {a b : α} (h : (if c = true then some a else none) = some b) : c = true ∧ a = b := by
  cases c with
  | true => exact ⟨rfl, Option.some.inj h⟩
  | false => cases h
theorem we_p1 {C : Ctx} {S : Scp} {X : Cx} {σ : St} {H : Hp} (G : Gd C S X) {P : P1} {p pa : Expr} (hp : p1A C.nb S P p = some pa) {Q : VK} (h : WE X pa σ H fun x H1 => p1T X P x H1 Q) : WE X p σ H Q := by
  unfold p1A at hp
  split at hp
  · obtain ⟨c, rfl⟩ := ifS hp
    simp only [Bool.and_eq_true, decide_eq_true_eq] at c
    obtain ⟨⟨rfl, hg⟩, hpl⟩ := c
    obtain ⟨g1, g2, g3, g4⟩ := blt_of G hg
    exact WE.of (pe_callB cr_sortedI g1 g3 (by rfl) (pa_cons pe_w pa_nil (star_plain hpl)) g4 g2 (star_plain hpl) (by rfl)) h
  · obtain ⟨c, rfl⟩ := ifS hp
    simp only [Bool.and_eq_true, decide_eq_true_eq] at c
    obtain ⟨⟨⟨⟨rfl, hg⟩, rfl⟩, hg2⟩, hpl⟩ := c
    obtain ⟨g1, g2, g3, g4⟩ := blt_of G hg
    obtain ⟨k1, k2, k3, k4⟩ := blt_of G hg2
    exact WE.of (pe_callB (cr_sortedSet G.calm) g1 g3 (by rfl) (pa_cons (pe_callTy (cr_setI G.calm) k1 k3 (by rfl) (pa_cons pe_w pa_nil (star_plain hpl)) k4 k2 (star_plain hpl) (by rfl)) pa_nil (by rfl)) g4 g2 (by rfl) (by rfl)) h
  · obtain ⟨c, rfl⟩ := ifS hp
    simp only [Bool.and_eq_true, decide_eq_true_eq] at c
    obtain ⟨⟨⟨⟨rfl, hg⟩, rfl⟩, hg2⟩, hpl⟩ := c
    obtain ⟨g1, g2, g3, g4⟩ := blt_of G hg
    obtain ⟨k1, k2, k3, k4⟩ := blt_of G hg2
    refine WE.of (pe_listRg G.calm g1 g3 (prg_1 k1 k3 pe_w (star_plain hpl)) (by rfl)) ?_
    refine h.mono fun x H1 q => ?_
    obtain ⟨n, e, r, q⟩ := q
    exact ⟨n, e, r, q⟩
  · obtain ⟨c, rfl⟩ := ifS hp
    simp only [Bool.and_eq_true, decide_eq_true_eq] at c
    obtain ⟨⟨rfl, hg⟩, hpl⟩ := c
    obtain ⟨g1, g2, g3, g4⟩ := blt_of G hg
    exact WE.of (pe_callB cr_sortPT g1 g3 (by rfl) (pa_cons pe_w pa_nil (star_plain hpl)) g4 g2 (star_plain hpl) (by rfl)) h
  · cases hp
theorem we_p2 {C : Ctx} {S : Scp} {X : Cx} {σ : St} {H : Hp} (G : Gd C S X) {P : P2} {p pa pb : Expr} (hp : p2A C.nb S P p = some (pa, pb)) {Q : VK} (h : WE X pa σ H fun x H1 => WE X pb σ H1 fun y H2 => p2T X P x y H2 Q) : WE X p σ H Q := by
  unfold p2A at hp
  split at hp
  · obtain ⟨c, e⟩ := ifS hp
    cases e
    simp only [Bool.and_eq_true, decide_eq_true_eq] at c
    obtain ⟨⟨⟨⟨⟨rfl, hg⟩, rfl⟩, hg2⟩, hpl⟩, hpl2⟩ := c
    obtain ⟨g1, g2, g3, g4⟩ := blt_of G hg
    obtain ⟨k1, k2, k3, k4⟩ := blt_of G hg2
    refine WE.of (pe_listRg G.calm g1 g3 (prg_2 k1 k3 pe_w pe_w (star_plain hpl) (star_plain hpl2) (plain_any (es := [_]) (by rw [List.all_cons, hpl2]; rfl))) (by rfl)) ?_
    refine h.mono fun x H1 q => q.mono fun y H2 q => ?_
    obtain ⟨m, n, e1, e2, r, q⟩ := q
    exact ⟨m, n, e1, e2, r, q⟩
  · cases hp
/-! ### small things: in order -/
theorem insI_perm (x : Int) : ∀ l, (insI x l).Perm (x :: l)
  | [] => .refl _
  | y :: l => by
    unfold insI
    split
    · exact .refl _
    · exact ((insI_perm x l).cons y).trans (.swap x y l)
theorem srtI_perm : ∀ l, (srtI l).Perm l
  | [] => .refl _
  | x :: l => (insI_perm x _).trans ((srtI_perm l).cons x)
theorem insI_sorted (x : Int) : ∀ l : List Int, l.Pairwise (· ≤ ·) → (insI x l).Pairwise (· ≤ ·)
  | [], _ => List.pairwise_singleton _ _
  | y :: l, h => by
    obtain ⟨h1, h2⟩ := List.pairwise_cons.mp h
    unfold insI
    split
    · rename_i c
      refine List.pairwise_cons.mpr ⟨fun z hz => ?_, h⟩
      rcases List.mem_cons.mp hz with rfl | hz
      · exact c
      · have := h1 z hz
        omega
    · rename_i c
      refine List.pairwise_cons.mpr ⟨fun z hz => ?_, insI_sorted x l h2⟩
      rcases List.mem_cons.mp ((insI_perm x l).mem_iff.mp hz) with rfl | hz
      · omega
      · exact h1 z hz
theorem srtI_sorted : ∀ l, (srtI l).Pairwise (· ≤ ·)
  | [] => .nil
  | x :: l => insI_sorted x _ (srtI_sorted l)
theorem sorted_uniq : ∀ {l m : List Int}, l.Perm m → l.Pairwise (· ≤ ·) → m.Pairwise (· ≤ ·) → l = m
  | [], m, p, _, _ => p.nil_eq
  | x :: l, [], p, _, _ => absurd p.symm.nil_eq (by simp)
  | x :: l, y :: m, p, h1, h2 => by
    obtain ⟨a1, a2⟩ := List.pairwise_cons.mp h1
    obtain ⟨b1, b2⟩ := List.pairwise_cons.mp h2
    have e : x = y := by
      have h3 : x ∈ y :: m := p.mem_iff.mp List.mem_cons_self
      have h4 : y ∈ x :: l := p.mem_iff.mpr List.mem_cons_self
      rcases List.mem_cons.mp h3 with h3 | h3
      · exact h3
      · rcases List.mem_cons.mp h4 with h4 | h4
        · exact h4.symm
        · have := a1 y h4
          have := b1 x h3
          omega
    subst e
    rw [sorted_uniq (p.cons_inv) a2 b2]
theorem insU_mem (x k : Int) : ∀ l, k ∈ insU x l ↔ k = x ∨ k ∈ l
  | [] => by unfold insU; simp
  | y :: l => by
    unfold insU
    split
    · simp
    · split
      · rename_i e
        subst e
        simp
      · rw [List.mem_cons, insU_mem x k l, List.mem_cons]
        constructor <;> rintro (h | h | h) <;> simp [h]
theorem srtU_mem (k : Int) : ∀ l, k ∈ srtU l ↔ k ∈ l
  | [] => Iff.rfl
  | x :: l => by
    unfold srtU
    rw [insU_mem, srtU_mem k l, List.mem_cons]
theorem insU_sorted (x : Int) : ∀ l : List Int, l.Pairwise (· < ·) → (insU x l).Pairwise (· < ·)
  | [], _ => List.pairwise_singleton _ _
  | y :: l, h => by
    obtain ⟨h1, h2⟩ := List.pairwise_cons.mp h
    unfold insU
    split
    · rename_i c
      refine List.pairwise_cons.mpr ⟨fun z hz => ?_, h⟩
      rcases List.mem_cons.mp hz with rfl | hz
      · exact c
      · have := h1 z hz
        omega
    · split
      · exact h
      · refine List.pairwise_cons.mpr ⟨fun z hz => ?_, insU_sorted x l h2⟩
        rcases (insU_mem x z l).mp hz with rfl | hz
        · omega
        · exact h1 z hz
theorem srtU_sorted : ∀ l, (srtU l).Pairwise (· < ·)
  | [] => .nil
  | x :: l => insU_sorted x _ (srtU_sorted l)
theorem strict_uniq : ∀ {l m : List Int}, (∀ k, k ∈ l ↔ k ∈ m) → l.Pairwise (· < ·) → m.Pairwise (· < ·) → l = m
  | [], [], _, _, _ => rfl
  | [], y :: m, p, _, _ => absurd ((p y).mpr List.mem_cons_self) (by simp)
  | x :: l, [], p, _, _ => absurd ((p x).mp List.mem_cons_self) (by simp)
  | x :: l, y :: m, p, h1, h2 => by
    obtain ⟨a1, a2⟩ := List.pairwise_cons.mp h1
    obtain ⟨b1, b2⟩ := List.pairwise_cons.mp h2
    have e : x = y := by
      rcases List.mem_cons.mp ((p x).mp List.mem_cons_self) with h3 | h3
      · exact h3
      · rcases List.mem_cons.mp ((p y).mpr List.mem_cons_self) with h4 | h4
        · exact h4.symm
        · have := a1 y h4
          have := b1 x h3
          omega
    subst e
    rw [strict_uniq (l := l) (m := m) (fun k => ?_) a2 b2]
    have := p k
    rw [List.mem_cons, List.mem_cons] at this
    constructor
    · intro hk
      rcases this.mp (.inr hk) with e | h
      · have := a1 k hk
        omega
      · exact h
    · intro hk
      rcases this.mpr (.inr hk) with e | h
      · have := b1 k hk
        omega
      · exact h
theorem uniq_len : ∀ {l m : List Int}, l.Nodup → m.Nodup → (∀ k, k ∈ l ↔ k ∈ m) → l.length = m.length := fun {l m} h1 h2 h => ((List.perm_ext_iff_of_nodup h1 h2).mpr h).length_eq
section
variable {X : Cx} {σ : St} {H₀ Hb H : Hp} {nd : List (List Addr × List Addr)} {T : Tv} {d e : D} {x y : V} {Q : VK}
theorem FinG.ite2 {α : Type} {c : Prop} [Decidable c] {r : R α} {k : α → Hp → Prop} (h : FinG X σ H (if c then r else .no) k) : c ∧ FinG X σ H r k := by
  by_cases hc : c
  · rw [if_pos hc] at h; exact ⟨hc, h⟩
  · rw [if_neg hc] at h; exact h.elim
/-- a list of numbers just made -/
theorem vl_ints {H1 : Hp} {p : Addr} {l : List Int} (e1 : Same Hb H1) (n : H1 p = none) (kf : KF X.K (upd H1 p (.lst (l.map V.int)))) : Vl X.K H₀ Hb (upd H1 p (.lst (l.map V.int))) nd .fr (.list (l.map PyData.int)) (.ref p) :=
  ⟨[p], [], Rw.lstF (if_pos rfl) (rwl_ints l), by simp, fun b z => by
    rw [List.mem_singleton.mp z]
    exact ⟨(new_of kf n).back e1, by simp⟩, by simp, by simp⟩
theorem vl_prs {H1 : Hp} {p : Addr} {l : List D} {ys : List V} (e1 : Same Hb H1) (n : H1 p = none) (kf : KF X.K (upd H1 p (.lst ys))) (r : RwL X.K (upd H1 p (.lst ys)) l .F ys [] []) : Vl X.K H₀ Hb (upd H1 p (.lst ys)) nd .fr (.list l) (.ref p) :=
  ⟨[p], [], Rw.lstF (if_pos rfl) r, by simp, fun b z => by
    rw [List.mem_singleton.mp z]
    exact ⟨(new_of kf n).back e1, by simp⟩, by simp, by simp⟩
theorem pairsD_no {x : Ex} : ∀ {ds : List D}, pairsD ds ≠ .ex x
  | [] => nofun
  | d :: ds => fun h => by
    unfold pairsD at h
    split at h
    · cases ‹d :: ds = []›
    · rename_i i j ds' e
      cases e
      cases q : pairsD ds with
      | ok l => rw [q] at h; cases h
      | ex z => exact pairsD_no (x := z) q
      | no => rw [q] at h; cases h
    · cases h
theorem same_new {H1 : Hp} {p : Addr} {o : HO} (n : H1 p = none) : Same H1 (upd H1 p o) := same_upd n
theorem fin_lrg {lo hi : Int} (e1 : Same Hb H) (kf : KF X.K H) (h : FinG X σ H (lrgD lo hi) fun d H' => ∀ v, Vl X.K H₀ Hb H' nd .fr d v → Q v H') : RgOk lo hi ∧ ∀ q, H q = none → KF X.K (upd H q (.lst (rgV lo hi))) → Q (.ref q) (upd H q (.lst (rgV lo hi))) := by
  unfold lrgD at h
  obtain ⟨c1, h⟩ := FinG.ite2 h
  unfold rngD at h
  obtain ⟨c2, h⟩ := FinG.ite h
  refine ⟨⟨c2.1, c2.2.1, c2.2.2.1, c2.2.2.2.1, by have : (2 : Nat) ^ 24 = 16777216 := rfl; omega⟩, fun q n kf2 => ?_⟩
  have e2 : rgV lo hi = ((List.range (hi - lo).toNat).map fun (i : Nat) => lo + (i : Int)).map V.int := by
    unfold rgV
    rw [List.map_map]
    rfl
  have e3 : ((List.range (hi - lo).toNat).map fun (i : Nat) => PyData.int (lo + (i : Int))) = ((List.range (hi - lo).toNat).map fun (i : Nat) => lo + (i : Int)).map PyData.int := by
    rw [List.map_map]
    rfl
  rw [e3] at h
  rw [e2] at kf2 ⊢
  exact h _ (same_upd n) kf2 _ (vl_ints e1 n kf2)
theorem p1_ok (sm : Same H₀ Hb) (e1 : Same Hb H) (kf : KF X.K H) {P : P1} (hv : Vl X.K H₀ Hb H nd T d x) (h : FinG X σ H (p1D P d) fun d H' => ∀ v, Vl X.K H₀ Hb H' nd .fr d v → Q v H') : p1T X P x H fun v H' => KF X.K H' → Q v H' := by
  cases P with
  | srt =>
    cases d with
    | list ds =>
      obtain ⟨a, ws, rfl, hl, o, s, hw, _⟩ := hv.items sm
      cases q : intsD ds with
      | ok l =>
        have e := rw_ints hw q
        subst e
        have h : FinG X σ H (intsD ds >>= fun l => R.ok (PyData.list ((srtI l).map fun i => .int i))) _ := h
        rw [q] at h
        refine ⟨a, l, rfl, hl, fun ns' p pm so n kf2 => ?_⟩
        have e2 : ns' = srtI l := sorted_uniq (pm.trans (srtI_perm l).symm) so (srtI_sorted l)
        subst e2
        exact h _ (same_upd n) kf2 _ (vl_ints e1 n kf2)
      | ex z => exact absurd q intsD_no
      | no =>
        have h : FinG X σ H (intsD ds >>= fun l => R.ok (PyData.list ((srtI l).map fun i => .int i))) _ := h
        rw [q] at h
        exact h.elim
    | _ => exact h.elim
  | srs =>
    cases d with
    | list ds =>
      obtain ⟨a, ws, rfl, hl, o, s, hw, _⟩ := hv.items sm
      have h : FinG X σ H (intsD ds >>= fun l => if l.length < 4000 ∧ (srtU l).length < 64 then R.ok (PyData.list ((srtU l).map fun i => .int i)) else .no) _ := h
      cases q : intsD ds with
      | ok l =>
        have e := rw_ints hw q
        subst e
        rw [q] at h
        have h : FinG X σ H (if l.length < 4000 ∧ (srtU l).length < 64 then R.ok (PyData.list ((srtU l).map fun i => .int i)) else .no) _ := h
        obtain ⟨c, h⟩ := FinG.ite h
        refine ⟨a, l, rfl, hl, c.1, fun b S n ms n0 hS nd1 hm hn => ?_⟩
        have len : n = (srtU l).length := by
          rw [← hn]
          exact (uniq_len nd1 ((srtU_sorted l).imp fun h => by omega) fun k => (hm k).trans (srtU_mem k l).symm)
        refine ⟨b, S, n, rfl, if_pos rfl, by omega, fun ns' p so me le n2 kf2 => ?_⟩
        have e2 : ns' = srtU l := strict_uniq (fun k => by rw [me k, hS k, srtU_mem k l]) so (srtU_sorted l)
        subst e2
        exact h _ ((same_upd n0).trans (same_upd n2)) kf2 _ (vl_ints (e1.trans (same_upd n0)) n2 kf2)
      | ex z => exact absurd q intsD_no
      | no => rw [q] at h; exact h.elim
    | _ => exact h.elim
  | lrg =>
    cases d with
    | int n =>
      obtain ⟨_, _, _, r⟩ := hv.rw
      rw [rw_int] at r
      obtain ⟨c, q⟩ := fin_lrg e1 kf (show FinG X σ H (lrgD 0 n) _ from h)
      exact ⟨n, r.1, c, q⟩
    | _ => exact h.elim
  | srp =>
    cases d with
    | list ds =>
      obtain ⟨a, ws, rfl, hl, o, s, hw, _⟩ := hv.items sm
      have h : FinG X σ H (pairsD ds >>= fun l => R.ok (PyData.list ((srtP l).map pairP))) _ := h
      cases q : pairsD ds with
      | ok l =>
        rw [q] at h
        obtain ⟨g1, g2⟩ := sorted_data kf hw q
        refine ⟨a, ws, pairOf X.K H, rfl, hl, g1, fun ys p so pm n kf2 => ?_⟩
        exact h _ (same_upd n) kf2 _ (vl_prs e1 n kf2 ((g2 ys so pm).same (same_upd n)))
      | ex z => exact absurd q pairsD_no
      | no => rw [q] at h; exact h.elim
    | _ => exact h.elim
theorem p2_ok (sm : Same H₀ Hb) (e1 : Same Hb H) (kf : KF X.K H) {P : P2} {t1 t2 : Ty} {o1 s1 o2 s2 : List Addr} (hv : Rw X.K H d t1 x o1 s1) (hw : Rw X.K H e t2 y o2 s2) (h : FinG X σ H (p2D P d e) fun d H' => ∀ v, Vl X.K H₀ Hb H' nd .fr d v → Q v H') : p2T X P x y H fun v H' => KF X.K H' → Q v H' := by
  cases P with
  | lrg =>
    cases d with
    | int m =>
      cases e with
      | int n =>
        rw [rw_int] at hv hw
        obtain ⟨c, q⟩ := fin_lrg e1 kf (show FinG X σ H (lrgD m n) _ from h)
        exact ⟨m, n, hv.1, hw.1, c, q⟩
      | _ => exact h.elim
    | _ => exact h.elim
end
theorem snd_pr1 {C : Ctx} {P : P1} {a : E} (iha : Snd C a) : Snd C (.pr1 P a) := by
  have hE : ∀ {S X H₀ τ δ σ nd H}, At C S X H₀ τ δ σ nd H → ∀ (p : Expr), ck C.nb (.pr1 P a) S false p = true → ∀ T, ty (.pr1 P a) τ = some T → ∀ Q : VK, FinG X σ H (ev (.pr1 P a) δ) (fun d H' => ∀ v, Vl X.K H₀ H H' nd T d v → Q v H') → WE X p σ H Q := by
    intro S X H₀ τ δ σ nd H at_ p hc T hT Q h
    have hc : (match p1A C.nb S P p with
      | some pa => ck C.nb a S false pa
      | none => false) = true := hc
    cases hp : p1A C.nb S P p with
    | none => rw [hp] at hc; cases hc
    | some pa =>
      rw [hp] at hc
      have hT : ((ty a τ).bind fun _ => some Tv.fr) = some T := hT
      obtain ⟨Ta, eTa, hT⟩ := Option.bind_eq_some_iff.mp hT
      cases hT
      have h : FinG X σ H (ev a δ >>= p1D P) (fun d H' => ∀ v, Vl X.K H₀ H H' nd Tv.fr d v → Q v H') := h
      refine WE.kf (we_p1 at_.G hp (iha.hE at_ pa hc Ta eTa _ (h.bind.imp fun d H1 e1 kf1 h x vx => ?_)))
      exact p1_ok at_.sv.sm e1 kf1 vx h
  refine Snd.of hE ?_ ?_ (fun _ _ => by simp [cks]) (fun _ _ => by simp [cko]) (fun _ _ => by simp [ckc]) (fun _ p h => h)
  · intro S X H₀ τ δ σ nd H at_ p hc T hT Q h
    have hp : ∃ pa, p1A C.nb S P p = some pa := by
      have hc : (match p1A C.nb S P p with
        | some pa => ck C.nb a S false pa
        | none => false) = true := hc
      cases q : p1A C.nb S P p with
      | none => rw [q] at hc; cases hc
      | some pa => exact ⟨pa, rfl⟩
    obtain ⟨pa, hp⟩ := hp
    obtain ⟨f, ps, pos, rfl⟩ := p1A_call hp
    exact wt_val (fun Q => hE at_ _ hc T hT Q) h
  · rintro S X H₀ τ δ σ nd H at_ p hc ⟨op, vs, pos, rfl⟩ T hT Q h
    have hc : (match p1A C.nb S P (.BoolOp op vs pos) with
      | some pa => ck C.nb a S false pa
      | none => false) = true := hc
    cases q : p1A C.nb S P (.BoolOp op vs pos) with
    | none => rw [q] at hc; cases hc
    | some pa =>
      obtain ⟨_, _, _, e⟩ := p1A_call q
      cases e
theorem snd_pr2 {C : Ctx} {P : P2} {a b : E} (iha : Snd C a) (ihb : Snd C b) : Snd C (.pr2 P a b) := by
  have hE : ∀ {S X H₀ τ δ σ nd H}, At C S X H₀ τ δ σ nd H → ∀ (p : Expr), ck C.nb (.pr2 P a b) S false p = true → ∀ T, ty (.pr2 P a b) τ = some T → ∀ Q : VK, FinG X σ H (ev (.pr2 P a b) δ) (fun d H' => ∀ v, Vl X.K H₀ H H' nd T d v → Q v H') → WE X p σ H Q := by
    intro S X H₀ τ δ σ nd H at_ p hc T hT Q h
    have hc : (match p2A C.nb S P p with
      | some (pa, pb) => ck C.nb a S false pa && ck C.nb b S false pb
      | none => false) = true := hc
    cases hp : p2A C.nb S P p with
    | none => rw [hp] at hc; cases hc
    | some pq =>
      obtain ⟨pa, pb⟩ := pq
      rw [hp] at hc
      have hc : (ck C.nb a S false pa && ck C.nb b S false pb) = true := hc
      rw [Bool.and_eq_true] at hc
      have hT : ((ty a τ).bind fun _ => (ty b τ).bind fun _ => some Tv.fr) = some T := hT
      obtain ⟨Ta, eTa, hT⟩ := Option.bind_eq_some_iff.mp hT
      obtain ⟨Tb, eTb, hT⟩ := Option.bind_eq_some_iff.mp hT
      cases hT
      have h : FinG X σ H (ev a δ >>= fun x => ev b δ >>= fun y => p2D P x y) (fun d H' => ∀ v, Vl X.K H₀ H H' nd Tv.fr d v → Q v H') := h
      refine WE.kf (we_p2 at_.G hp (iha.hE at_ pa hc.1 Ta eTa _ (h.bind.imp fun d H1 e1 kf1 h x vx => ?_)))
      refine ihb.hE (at_.grow e1 kf1) pb hc.2 Tb eTb _ (h.bind.imp fun d2 H2 e2 kf2 h y vy => ?_)
      obtain ⟨_, _, _, rx⟩ := vx.rw
      obtain ⟨_, _, _, ry⟩ := vy.rw
      exact p2_ok at_.sv.sm (e1.trans e2) kf2 (Rw.same e2 d rx) ry h
  refine Snd.of hE ?_ ?_ (fun _ _ => by simp [cks]) (fun _ _ => by simp [cko]) (fun _ _ => by simp [ckc]) (fun _ p h => h)
  · intro S X H₀ τ δ σ nd H at_ p hc T hT Q h
    have hp : ∃ pa, p2A C.nb S P p = some pa := by
      have hc : (match p2A C.nb S P p with
        | some (pa, pb) => ck C.nb a S false pa && ck C.nb b S false pb
        | none => false) = true := hc
      cases q : p2A C.nb S P p with
      | none => rw [q] at hc; cases hc
      | some pa => exact ⟨pa, rfl⟩
    obtain ⟨pa, hp⟩ := hp
    obtain ⟨f, ps, pos, rfl⟩ := p2A_call hp
    exact wt_val (fun Q => hE at_ _ hc T hT Q) h
  · rintro S X H₀ τ δ σ nd H at_ p hc ⟨op, vs, pos, rfl⟩ T hT Q h
    have hc : (match p2A C.nb S P (.BoolOp op vs pos) with
      | some (pa, pb) => ck C.nb a S false pa && ck C.nb b S false pb
      | none => false) = true := hc
    cases q : p2A C.nb S P (.BoolOp op vs pos) with
    | none => rw [q] at hc; cases hc
    | some pa =>
      obtain ⟨_, _, _, e⟩ := p2A_call q
      cases e
end VS
set_option Elab.async false
set_option linter.all false
set_option maxRecDepth 100000
namespace VS
open PySem PySem.Spec L2
open PyProof.Rows hiding St
/-! ### two walks in one -/
theorem R.okx {α β : Type} {r : R α} {f : α → R β} {b : β} (h : (r >>= f) = .ok b) : ∃ a, r = .ok a ∧ f a = .ok b := by
  cases r with
  | ok a => exact ⟨a, rfl, h⟩
  | ex x => cases h
  | no => cases h
theorem c2A_is {p : Expr} {c : C2} (h : c2A p = some c) : ∃ pos, p = .ListComp c.pe [⟨c.ptg, c.pit, [], 0⟩, ⟨c.ptg1, c.pit1, [], 0⟩] c.scope pos := by
  unfold c2A at h
  split at h
  · cases h; exact ⟨_, rfl⟩
  · cases h
theorem flatL_ok {f : D → R (List D)} : ∀ {xs ys : List D}, flatL f xs = .ok ys → ∃ yss : List (List D), yss.length = xs.length ∧ (∀ (i : Nat) x, xs[i]? = some x → ∃ y, yss[i]? = some y ∧ f x = .ok y) ∧ ys = yss.flatten
  | [], ys, h => by cases h; exact ⟨[], rfl, by simp, rfl⟩
  | x :: xs, ys, h => by
    obtain ⟨y, h1, h⟩ := R.okx (show (f x >>= fun ys => flatL f xs >>= fun zs => .ok (ys ++ zs)) = .ok ys from h)
    obtain ⟨zs, h2, h⟩ := R.okx h
    cases h
    obtain ⟨yss, l, a, rfl⟩ := flatL_ok h2
    refine ⟨y :: yss, by simp [l], fun i z hz => ?_, rfl⟩
    cases i with
    | zero => cases hz; exact ⟨y, rfl, h1⟩
    | succ i => exact a i z hz
theorem mapL_ok {f : D → R D} : ∀ {xs ys : List D}, mapL f xs = .ok ys → ys.length = xs.length ∧ ∀ (i : Nat) x, xs[i]? = some x → ∃ y, ys[i]? = some y ∧ f x = .ok y
  | [], ys, h => by cases h; exact ⟨rfl, by simp⟩
  | x :: xs, ys, h => by
    obtain ⟨y, h1, h⟩ := R.okx (show (f x >>= fun y => mapL f xs >>= fun ys => .ok (y :: ys)) = .ok ys from h)
    obtain ⟨zs, h2, h⟩ := R.okx h
    cases h
    obtain ⟨l, a⟩ := mapL_ok h2
    refine ⟨by simp [l], fun i z hz => ?_⟩
    cases i with
    | zero => cases hz; exact ⟨y, rfl, h1⟩
    | succ i => exact a i z hz
theorem flat_take {α : Type} (yss : List (List α)) {i : Nat} {y : List α} (h : yss[i]? = some y) : (yss.take (i + 1)).flatten = (yss.take i).flatten ++ y := by
  rw [List.take_add_one, h]
  simp
theorem flat_take_len {α : Type} (yss : List (List α)) (i : Nat) : (yss.take i).flatten.length ≤ yss.flatten.length := by
  have e : yss.flatten = (yss.take i).flatten ++ (yss.drop i).flatten := by rw [← List.flatten_append, List.take_append_drop]
  rw [e, List.length_append]
  omega
def IU (X : Cx) (scope : Scope) (tg it : Expr) : TI := fun σ H R => ∀ (s : Shared) (Hs : Hp) (Ca : Addr) (cl : List (Str × Addr)) (fp : List Addr), WI (X.blk s Hs scope (compEnvC scope cl Ca X.env) fp) tg it σ H R
theorem iu_w {X : Cx} {scope : Scope} {tg it : Expr} (s : Shared) (Hs : Hp) (Ca : Addr) (cl : List (Str × Addr)) (fp : List Addr) : PI (X.blk s Hs scope (compEnvC scope cl Ca X.env) fp) tg it (IU X scope tg it) := ⟨fun pins s' σ H R I h => h s Hs Ca cl fp pins s' I⟩
/-- the heap without the list at D -/
def les (H : Hp) (D : Addr) : Hp := fun b => if b = D then none else H b
theorem les_at {H : Hp} {D : Addr} : les H D D = none := if_pos rfl
theorem les_ne {H : Hp} {D b : Addr} (h : b ≠ D) : les H D b = H b := if_neg h
theorem les_upd {H : Hp} {D : Addr} {o : HO} : upd (les H D) D o = upd H D o := by
  funext b
  unfold upd
  by_cases e : b = D
  · rw [if_pos e, if_pos e]
  · rw [if_neg e, if_neg e, les_ne e]
theorem les_same {H H' : Hp} {D : Addr} {o : HO} (n : H D = none) (e : Same (upd H D o) H') : Same H (les H' D) := fun b ob h => by
  have ne : b ≠ D := fun z => by rw [z, n] at h; cases h
  rw [les_ne ne]
  exact e b ob ((upd_ne ne).trans h)
theorem les_tup {H : Hp} {D : Addr} {l : List V} (h : H D = some (.lst l)) : ∀ b xs, Rd H b (.tup xs) → Rd (les H D) b (.tup xs) := fun b zs hb => by
  have ne : b ≠ D := fun z => by
    rcases hb with hb | ⟨ob, hb⟩ <;> (rw [z, h] at hb; cases hb)
  rcases hb with hb | ⟨ob, hb⟩
  · exact .inl ((les_ne ne).trans hb)
  · exact .inr ⟨ob, (les_ne ne).trans hb⟩
def c2F (tg : Tg) (it1 : E) (tg1 : Tg) (elt : E) (own : List (Str × Nat)) (δ : Sl) (x : D) : R (List D) := setTg tg x (wipeD δ (own.map (·.2))) >>= fun δ1 => ev it1 δ1 >>= iterD >>= fun zs =>
  mapL (fun z => setTg tg1 z (wipeD δ1 (tgL tg1)) >>= fun δ2 => ev elt δ2 >>= fun y => if imm y = true then .ok y else .no) zs
/-- the slots' values in another heap, alike at their nodes -/
theorem SV.frame {K : PySem.W.Frag} {H₀ H H' : Hp} {τ : Tys} {δ : Sl} {σ : St} {nd : List (List Addr × List Addr)} (h : SV K H₀ H τ δ σ nd) (kf : KF K H') (sm : Same H₀ H') (ht : ∀ b xs, Rd H b (.tup xs) → Rd H' b (.tup xs))
    (hb : ∀ (i : Nat) (p : List Addr × List Addr), nd[i]? = some p → ∀ b, b ∈ p.1 ∨ b ∈ p.2 → H' b = H b) : SV K H₀ H' τ δ σ nd where
  kf := kf
  sm := sm
  ls := h.ls
  ln := h.ln
  rep := fun i d t a h1 h2 => by
    obtain ⟨v, o, s, h3, h4, h5, h6⟩ := h.rep i d t a h1 h2
    exact ⟨v, o, s, h3, h4, Rw.frame ht d (fun b z => hb i _ h4 b z) h5, h6⟩
  old := fun i p h1 b z n => h.old i p h1 b z ⟨by rw [← hb i p h1 b z]; exact n.1, n.2⟩
  own := fun i p h1 b z => by
    obtain ⟨n, u, hu, m⟩ := h.own i p h1 b z
    exact ⟨n, u, by rw [hb i p h1 b (.inl z)]; exact hu, m⟩
theorem old_same {K : PySem.W.Frag} {H H' : Hp} {b : Addr} (e : ∀ ob, H b = some ob → H' b = some ob) (kf : KF K H') (o : Old K H b) : H' b = H b := by
  cases q : H b with
  | some ob => exact e ob q
  | none =>
    cases q2 : K.lookup b with
    | none => exact absurd ⟨q, q2⟩ o
    | some ob => exact kf.1 b ob q2
theorem tgIn_self (tg : Tg) : tgIn (tgL tg) tg = true := by
  cases tg with
  | one i => simp [tgIn, tgL]
  | tup is => exact List.all_eq_true.mpr fun x hx => decide_eq_true hx
section
variable {C : Ctx} {S : Scp} {X : Cx} {H₀ H : Hp} {τ : Tys} {δ : Sl} {σ : St} {nd : List (List Addr × List Addr)}
theorem comp2_core {own : List (Str × Nat)} {tg tg1 : Tg} {it it1 elt : E} (ihi : Snd C it) (ihj : Snd C it1) (ihe : Snd C elt) (at_ : At C S X H₀ τ δ σ nd H) {scope : Scope} {ptg pit ptg1 pit1 pe : Expr}
    (hci : ck C.nb it S true pit = true) (hct : tgC (S.blk scope) tg ptg = true) (htg : tgIn (own.map (·.2)) tg = true) (hcj : ck C.nb it1 (S.blk scope) true pit1 = true) (hct1 : tgC (S.blk scope) tg1 ptg1 = true) (hce : ck C.nb elt (S.blk scope) false pe = true)
    {T T1 U : Tv} (eT : ty it τ = some T) (eT1 : ty it1 (setTy tg (some (.S, T.a)) (wipeT τ (own.map (·.2)))) = some T1) (eU : ty elt (setTy tg1 (some (.S, T1.a)) (wipeT (setTy tg (some (.S, T.a)) (wipeT τ (own.map (·.2)))) (tgL tg1))) = some U) {Q : VK}
    (h : FinG X σ H ((ev it δ >>= iterD) >>= fun xs => nox (flatL (c2F tg it1 tg1 elt own δ) xs) >>= fun ys => if ys.length ≤ sizeLine then .ok (PyData.list ys) else .no) (fun d H' => ∀ v, Vl X.K H₀ H H' nd .fr d v → Q v H')) :
    tLc2 (WI X ptg pit) (GU X scope ptg) (QU X scope []) (IU X scope ptg1 pit1) (GU X scope ptg1) (QU X scope []) (EU X scope pe) (own.map (·.2)) (tgL tg1) σ H (fun v H' => KF X.K H' → Q v H') := by
  refine ihi.hI at_ ptg pit hci T eT _ (h.bind.imp fun xs H1 e1 kf1 h J vs St w hJ hSt hStd hsz hw hvl D hD => ?_)
  cases q : flatL (c2F tg it1 tg1 elt own δ) xs with
  | ex e => rw [q] at h; exact False.elim h
  | no => rw [q] at h; exact False.elim h
  | ok ys =>
  rw [q] at h
  have h : FinG X σ H1 (if ys.length ≤ sizeLine then .ok (PyData.list ys) else .no) (fun d H' => ∀ v, Vl X.K H₀ H H' nd .fr d v → Q v H') := h
  obtain ⟨hys, h⟩ := FinG.ite h
  obtain ⟨yss, hyl, hyf, rfl⟩ := flatL_ok q
  obtain ⟨sI, rI, hsI, haI⟩ := hvl.allS at_.sv.sm
  have lenV : vs.length = xs.length := rI.length
  have oldI : ∀ b ∈ sI, Old X.K H1 b := fun b hb => RwL.old xs rI b (.inr hb)
  refine ⟨fun i m Hi => m = vs.length - i ∧ i ≤ vs.length ∧ ∃ Hx acc, Hi = upd Hx D (.lst acc) ∧ Hx D = none ∧ Same H1 Hx ∧ acc.length = (yss.take i).flatten.length ∧
    (KF X.K Hi → RwL X.K Hx ((yss.take i).flatten) .F acc [] []), ⟨vs.length, by omega, Nat.zero_le _, H1, [], rfl, hD, Same.refl _, rfl, fun _ => rwl_nil.mpr ⟨rfl, rfl, rfl⟩⟩, fun i m Hi hW => ?_⟩
  obtain ⟨rfl, hi, Hx, acc, rfl, hDx, sx, hacc, hRw⟩ := hW
  have s1 : Same H1 (upd Hx D (.lst acc)) := sx.trans (same_upd hDx)
  have hSti := hStd.1 _ _ s1 hSt
  by_cases hlt : i < vs.length
  · have hx : i < xs.length := by omega
    obtain ⟨yi, hyi, hf⟩ := hyf i xs[i] (by simp [hx])
    have ft := flat_take yss hyi
    refine .inr ⟨hJ.go i _ hSti hlt, fun H' => ∃ Hx acc, H' = upd Hx D (.lst acc) ∧ Hx D = none ∧ Same H1 Hx ∧ acc.length = (yss.take (i + 1)).flatten.length ∧ (KF X.K H' → RwL X.K Hx ((yss.take (i + 1)).flatten) .F acc [] []), fun H' hN => ?_, fun x H' hy => ?_⟩
    · obtain ⟨Hy, acc', r1, r2, r3, r4, r5⟩ := hN
      exact ⟨vs.length - (i + 1), by omega, rfl, hlt, Hy, acc', r1, r2, r3, r4, r5⟩
    obtain ⟨rfl, hxv⟩ := hJ.yld i _ x _ hSti hy hlt
    intro s0 Hs0 Ca cl fp
    have G' := at_.G.blk s0 Hs0 scope cl Ca fp
    refine WG.kf0 fun kfi => ?_
    have kfi : KF X.K (upd Hx D (.lst acc)) := kfi
    obtain ⟨kfx, newD⟩ := kf_erase kfi hDx
    have RW := hRw kfi
    obtain ⟨v1, o1, s1', ev1, rv1, l1, l2⟩ := rI.item (i := i) (d := xs[i]) (by simp [hx])
    have eo1 : o1 = [] := List.sublist_nil.mp l1
    subst eo1
    have exv : v1 = x := by rw [hxv] at ev1; exact (Option.some.inj ev1).symm
    subst exv
    have rv2 : Rw X.K (upd Hx D (.lst acc)) xs[i] .S v1 [] s1' := Rw.same s1 _ rv1
    obtain ⟨δ1, qt, hf⟩ := R.okx (show (setTg tg xs[i] (wipeD δ (own.map (·.2))) >>= fun δ1 => (ev it1 δ1 >>= iterD) >>= fun zs => mapL (fun z => setTg tg1 z (wipeD δ1 (tgL tg1)) >>= fun δ2 => ev elt δ2 >>= fun y => if imm y = true then .ok y else .no) zs) = .ok yi from hf)
    obtain ⟨zs, qz, hf⟩ := R.okx hf
    obtain ⟨hzl, hzf⟩ := mapL_ok hf
    have sv0 := at_.sv.grow (e1.trans s1) kfi
    obtain ⟨nd0, sv1, in1⟩ := sv0.wipe (own.map (·.2))
    refine wg_tg (a := T.a) G' hct qt rv2 (fun ea b hb => haI ea b (l2.subset hb)) sv1 fun σ2 nd2 sv2 in2 hwp => ⟨(hwp _ htg).trans (wipe_sub fun _ z => z), ?_⟩
    have hnd2 : ∀ (j : Nat) (p : List Addr × List Addr), nd2[j]? = some p → (nd[j]? = some p) ∨ (p.1 = [] ∧ ∀ b ∈ p.2, b ∈ s1') := fun j p hp => by
      rcases in2 j p hp with z | z
      · rcases in1 j p z with z | z
        · exact .inl z
        · exact .inr ⟨z.1, fun b hb => absurd (z.2 b hb) (by simp)⟩
      · exact .inr z
    have far2 : ∀ (j : Nat) (p : List Addr × List Addr), nd2[j]? = some p → ∀ b, b ∈ p.1 ∨ b ∈ p.2 → b ≠ D := fun j p hp b hb z => by
      rcases hnd2 j p hp with y | ⟨y1, y2⟩
      · refine at_.sv.old j p y b hb ?_
        rw [z]
        exact newD.back (e1.trans sx)
      · rcases hb with hb | hb
        · rw [y1] at hb; cases hb
        · refine oldI b (l2.subset (y2 b hb)) ?_
          rw [z]
          exact newD.back sx
    have at2 : ∀ s0 Hs0 Ca cl fp, At C (S.blk scope) (X.blk s0 Hs0 scope (compEnvC scope cl Ca X.env) fp) H₀ _ δ1 σ2 nd2 (upd Hx D (.lst acc)) := fun s0 Hs0 Ca cl fp => ⟨at_.G.blk s0 Hs0 scope cl Ca fp, sv2⟩
    intro s5 Hs5 Ca5 cl5 fp5
    refine snd_nop.hC (at2 s5 Hs5 Ca5 cl5 fp5) [] rfl rfl _ (show FinG _ _ _ (R.ok true) _ from ?_)
    intro H3 s3 kf3
    have kf3 : KF X.K H3 := kf3
    rw [if_pos rfl]
    have hD3 := s3 D _ upd_same
    intro s6 Hs6 Ca6 cl6 fp6
    have at3 : ∀ s0 Hs0 Ca cl fp, At C (S.blk scope) (X.blk s0 Hs0 scope (compEnvC scope cl Ca X.env) fp) H₀ _ δ1 σ2 nd2 H3 := fun s0 Hs0 Ca cl fp => (at2 s0 Hs0 Ca cl fp).grow s3 kf3
    refine ihj.hI (at3 s6 Hs6 Ca6 cl6 fp6) ptg1 pit1 hcj T1 eT1 _ ?_
    rw [qz]
    intro H4 s4 kf4 J1 ws St1 w1 hJ1 hSt1 hStd1 hsz1 hw1 hvl1
    have kf4 : KF X.K H4 := kf4
    have hD4 := s4 D _ hD3
    obtain ⟨sJ, rJ, hsJ, haJ⟩ := hvl1.allS (at3 s6 Hs6 Ca6 cl6 fp6).sv.sm
    have lenW : ws.length = zs.length := rJ.length
    -- the walked things are not the list
    have neD3 : ∀ b, New X.K H3 b → b ≠ D := fun b n z => by
      have := n.1
      rw [z, hD3] at this
      cases this
    have farJ : ∀ b ∈ sJ, b ≠ D := fun b hb => by
      rcases hsJ b hb with z | ⟨j, p, hp, hb2⟩
      · exact neD3 b z
      · exact far2 j p hp b (hb2.elim .inr fun q => .inl q.2)
    have farw : w1 = some D → False := fun z => by
      rcases (hw1 D z).2 with y | ⟨j, p, hp, hb2⟩
      · exact neD3 D y rfl
      · exact far2 j p hp D (hb2.elim .inr fun q => .inl q.2) rfl
    have sx4 : Same Hx (les H4 D) := les_same hDx (s3.trans s4)
    have RW4 : RwL X.K (les H4 D) ((yss.take i).flatten) .F acc [] [] := RwL.same sx4 _ RW
    have eU4 : H4 = upd (les H4 D) D (.lst acc) := by
      rw [les_upd]
      funext b
      unfold upd
      by_cases e : b = D
      · rw [if_pos e, e, hD4]
      · rw [if_neg e]
    refine ⟨fun j m Hj => m = ws.length - j ∧ j ≤ ws.length ∧ ∃ Hy acc2, Hj = upd Hy D (.lst acc2) ∧ Hy D = none ∧ Same (les H4 D) Hy ∧ acc2.length = (yss.take i).flatten.length + j ∧
      (KF X.K Hj → RwL X.K Hy ((yss.take i).flatten ++ yi.take j) .F acc2 [] []), ⟨ws.length, by omega, Nat.zero_le _, les H4 D, acc, eU4, les_at, Same.refl _, by omega, fun _ => by rw [List.take_zero, List.append_nil]; exact RW4⟩, fun j m Hj hW => ?_⟩
    obtain ⟨rfl, hj, Hy, acc2, rfl, hDy, sy, hacc2, hRw2⟩ := hW
    have sxy : Same H1 Hy := (sx.trans sx4).trans sy
    -- the walk goes on
    have hStj : St1 (upd Hy D (.lst acc2)) := by
      have a1 : St1 (upd H4 D (.lst acc2)) := hStd1.2 H4 D _ ⟨_, hD4, trivial⟩ farw hSt1
      refine hStd1.1 _ _ (fun b ob e => ?_) a1
      unfold upd at e ⊢
      by_cases z : b = D
      · rw [if_pos z] at e ⊢
        exact e
      · rw [if_neg z] at e ⊢
        exact sy b ob ((les_ne z).trans e)
    by_cases hjt : j < ws.length
    · have hzj : j < zs.length := by omega
      obtain ⟨yj, hyj, hfj⟩ := hzf j zs[j] (by simp [hzj])
      refine .inr ⟨hJ1.go j _ hStj hjt, fun H' => ∃ Hy acc2, H' = upd Hy D (.lst acc2) ∧ Hy D = none ∧ Same (les H4 D) Hy ∧ acc2.length = (yss.take i).flatten.length + (j + 1) ∧ (KF X.K H' → RwL X.K Hy ((yss.take i).flatten ++ yi.take (j + 1)) .F acc2 [] []), fun H' hN => ?_, fun z H' hz => ?_⟩
      · obtain ⟨Hz, acc', r1, r2, r3, r4, r5⟩ := hN
        exact ⟨ws.length - (j + 1), by omega, rfl, hjt, Hz, acc', r1, r2, r3, r4, r5⟩
      obtain ⟨rfl, hzv⟩ := hJ1.yld j _ z _ hStj hz hjt
      intro s7 Hs7 Ca7 cl7 fp7
      refine WG.kf0 fun kfj => ?_
      have kfj : KF X.K (upd Hy D (.lst acc2)) := kfj
      have RW2 := hRw2 kfj
      obtain ⟨v2, o2, s2', ev2, rvj, l3, l4⟩ := rJ.item (i := j) (d := zs[j]) (by simp [hzj])
      have eo2 : o2 = [] := List.sublist_nil.mp l3
      subst eo2
      have ezv : v2 = z := by rw [hzv] at ev2; exact (Option.some.inj ev2).symm
      subst ezv
      have rvj2 : Rw X.K (upd Hy D (.lst acc2)) zs[j] .S v2 [] s2' := by
        have a1 : Rw X.K (les H4 D) zs[j] .S v2 [] s2' := Rw.frame (les_tup hD4) _ (fun b hb => les_ne (farJ b (l4.subset (hb.resolve_left (by simp))))) rvj
        exact Rw.same (sy.trans (same_upd hDy)) _ a1
      obtain ⟨δ2, qt2, hfj⟩ := R.okx (show (setTg tg1 zs[j] (wipeD δ1 (tgL tg1)) >>= fun δ2 => ev elt δ2 >>= fun y => if imm y = true then .ok y else .no) = .ok yj from hfj)
      obtain ⟨yv, qe, hfj⟩ := R.okx hfj
      have himm : imm yv = true ∧ yv = yj := by
        by_cases c : imm yv = true
        · rw [if_pos c] at hfj; cases hfj; exact ⟨c, rfl⟩
        · rw [if_neg c] at hfj; cases hfj
      obtain ⟨himm, rfl⟩ := himm
      have kk : ∀ b, b ≠ D → ∀ ob, (upd Hx D (.lst acc)) b = some ob → (upd Hy D (.lst acc2)) b = some ob := fun b ne ob e => by
        rw [upd_ne ne] at e ⊢
        exact sy b ob (sx4 b ob e)
      have svj : SV X.K H₀ (upd Hy D (.lst acc2)) _ δ1 σ2 nd2 := sv2.frame kfj (at_.sv.sm.trans ((e1.trans sxy).trans (same_upd hDy))) (fun b zs hb => by
        have ne : b ≠ D := fun z => by
          rcases hb with hb | ⟨ob, hb⟩ <;> (rw [z, upd_same] at hb; cases hb)
        rcases hb with hb | ⟨ob, hb⟩
        · exact .inl (kk b ne _ hb)
        · exact .inr ⟨ob, kk b ne _ hb⟩) (fun i p hp b hb => old_same (kk b (far2 i p hp b hb)) kfj (sv2.old i p hp b hb))
      have G7 := at_.G.blk s7 Hs7 scope cl7 Ca7 fp7
      obtain ⟨nd5, sv5, in5⟩ := svj.wipe (tgL tg1)
      refine wg_tg (a := T1.a) G7 hct1 qt2 rvj2 (fun ea b hb => haJ ea b (l4.subset hb)) sv5 fun σ3 nd3 sv3 in3 hwp3 => ⟨(hwp3 _ (tgIn_self tg1)).trans (wipe_sub fun _ z => z), ?_⟩
      have at5 : ∀ s0 Hs0 Ca cl fp, At C (S.blk scope) (X.blk s0 Hs0 scope (compEnvC scope cl Ca X.env) fp) H₀ _ δ2 σ3 nd3 (upd Hy D (.lst acc2)) := fun s0 Hs0 Ca cl fp => ⟨at_.G.blk s0 Hs0 scope cl Ca fp, sv3⟩
      intro s8 Hs8 Ca8 cl8 fp8
      refine snd_nop.hC (at5 s8 Hs8 Ca8 cl8 fp8) [] rfl rfl _ (show FinG _ _ _ (R.ok true) _ from ?_)
      intro H5 t5 kf5
      have kf5 : KF X.K H5 := kf5
      rw [if_pos rfl]
      intro s9 Hs9 Ca9 cl9 fp9
      refine ihe.hE ((at5 s9 Hs9 Ca9 cl9 fp9).grow t5 kf5) pe hce U eU _ ?_
      rw [qe]
      intro H6 t6 kf6 yw vy
      have hD6 := t6 D _ (t5 D _ upd_same)
      have yil : yi.length = ws.length := by rw [hzl, lenW]
      have ftl : (yss.take (i + 1)).flatten.length = (yss.take i).flatten.length + ws.length := by rw [ft, List.length_append, yil]
      have room := flat_take_len yss (i + 1)
      refine ⟨acc2, hD6, by omega, les H6 D, acc2 ++ [yw], les_upd.symm, les_at, sy.trans (les_same hDy (t5.trans t6)), by rw [List.length_append, hacc2]; rfl, fun _ => ?_⟩
      obtain ⟨_, _, _, ry⟩ := vy.rw
      obtain ⟨_, _, ry⟩ := Rw.imm _ himm ry
      have ry2 : Rw X.K (les H6 D) yv .F yw [] [] := Rw.frame (les_tup hD6) _ (fun b hb => absurd hb (by simp)) (ry .F)
      have eyt : yi.take (j + 1) = yi.take j ++ [yv] := by rw [List.take_add_one, hyj]; rfl
      rw [eyt, ← List.append_assoc]
      exact (RwL.same (les_same hDy (t5.trans t6)) _ RW2).app (RwL.one ry2)
    · have ej : j = ws.length := by omega
      subst ej
      refine .inl ⟨hJ1.stop _ hStj, Hy, acc2, rfl, hDy, sxy, ?_, fun kfj => ?_⟩
      · rw [ft, List.length_append, hacc2, hzl, lenW]
      · have := hRw2 kfj
        have ey : yi.take ws.length = yi := List.take_of_length_le (by rw [hzl, lenW]; exact Nat.le_refl _)
        rw [ey] at this
        rw [ft]
        exact this
  · have ei : i = vs.length := by omega
    subst ei
    refine .inl ⟨hJ.stop _ hSti, fun kfi => ?_⟩
    obtain ⟨kfx, newD⟩ := kf_erase kfi hDx
    have RW := hRw kfi
    have et : yss.take vs.length = yss := List.take_of_length_le (by rw [hyl, lenV]; exact Nat.le_refl _)
    rw [et] at RW
    have kfi2 : KF X.K (upd Hx D (.lst acc)) := kfi
    exact h _ s1 kfi2 _ ⟨[D], [], Rw.lstF upd_same (RwL.same (same_upd hDx) _ RW), by simp, fun b z => by
      rw [List.mem_singleton.mp z]
      exact ⟨newD.back (e1.trans sx), by simp⟩, by simp, by simp⟩
end
theorem snd_comp2 {C : Ctx} {own : List (Str × Nat)} {tg tg1 : Tg} {it it1 elt : E} (ihi : Snd C it) (ihj : Snd C it1) (ihe : Snd C elt) : Snd C (.comp2 own tg it tg1 it1 elt) := by
  have hE : ∀ {S X H₀ τ δ σ nd H}, At C S X H₀ τ δ σ nd H → ∀ (p : Expr), ck C.nb (.comp2 own tg it tg1 it1 elt) S false p = true → ∀ T, ty (.comp2 own tg it tg1 it1 elt) τ = some T → ∀ Q : VK, FinG X σ H (ev (.comp2 own tg it tg1 it1 elt) δ) (fun d H' => ∀ v, Vl X.K H₀ H H' nd T d v → Q v H') → WE X p σ H Q := by
    intro S X H₀ τ δ σ nd H at_ p hc T hT Q h
    have hc : (match c2A p with
      | some ⟨pe, ptg, pit, ptg1, pit1, scope⟩ => blkC S.N S.sc scope own && plainX pit && plainX pit1 && ck C.nb it S true pit && tgC (S.blk scope) tg ptg && tgIn (own.map (·.2)) tg && ck C.nb it1 (S.blk scope) true pit1 && tgC (S.blk scope) tg1 ptg1 && tgIn (own.map (·.2)) tg1 && ck C.nb elt (S.blk scope) false pe
      | none => false) = true := hc
    cases qa : c2A p with
    | none => rw [qa] at hc; cases hc
    | some c =>
      obtain ⟨pos, rfl⟩ := c2A_is qa
      rw [qa] at hc
      obtain ⟨pe, ptg, pit, ptg1, pit1, scope⟩ := c
      simp only [Bool.and_eq_true] at hc
      obtain ⟨⟨⟨⟨⟨⟨⟨⟨⟨h1, h2⟩, h3⟩, h4⟩, h5⟩, h6⟩, h7⟩, h8⟩, h9⟩, hA⟩ := hc
      have hT : ((ty it τ).bind fun T => (ty it1 (setTy tg (some (.S, T.a)) (wipeT τ (own.map (·.2))))).bind fun T1 =>
          (ty elt (setTy tg1 (some (.S, T1.a)) (wipeT (setTy tg (some (.S, T.a)) (wipeT τ (own.map (·.2)))) (tgL tg1)))).bind fun _ => some Tv.fr) = some T := hT
      obtain ⟨Ti, e1, hT⟩ := Option.bind_eq_some_iff.mp hT
      obtain ⟨Tj, e2, hT⟩ := Option.bind_eq_some_iff.mp hT
      obtain ⟨U, e3, hT⟩ := Option.bind_eq_some_iff.mp hT
      cases hT
      have hv : ∀ i ∈ tgL tg1, i ∈ own.map (·.2) := by
        cases tg1 with
        | one i =>
          intro j hj
          rw [List.mem_singleton.mp hj]
          exact of_decide_eq_true h9
        | tup is => exact fun j hj => of_decide_eq_true (List.all_eq_true.mp h9 j hj)
      have h : FinG X σ H (ev it δ >>= iterD >>= fun xs => nox (flatL (c2F tg it1 tg1 elt own δ) xs) >>= fun ys => if ys.length ≤ sizeLine then .ok (PyData.list ys) else .no) (fun d H' => ∀ v, Vl X.K H₀ H H' nd Tv.fr d v → Q v H') := h
      refine WE.kf (WE.of (pe_lc2 (own := own) (vs1 := tgL tg1) at_.G.calm (by rw [at_.G.N]; exact at_.G.nd) pi_w (blkOk_by (by rw [at_.G.N, at_.G.sc]; exact h1)) hv gu_w qu_w iu_w gu_w qu_w eu_w (plain_folded h2) (fun env => plain_folded h3)) ?_)
      exact comp2_core ihi ihj ihe at_ h4 h5 h6 h7 h8 hA e1 e2 e3 h
  have hx : ∀ S f p, ck C.nb (.comp2 own tg it tg1 it1 elt) S f p = true → ∃ c, c2A p = some c := fun S f p hc => by
    cases qa : c2A p with
    | none =>
      have hc : (match c2A p with
        | some ⟨pe, ptg, pit, ptg1, pit1, scope⟩ => blkC S.N S.sc scope own && plainX pit && plainX pit1 && ck C.nb it S true pit && tgC (S.blk scope) tg ptg && tgIn (own.map (·.2)) tg && ck C.nb it1 (S.blk scope) true pit1 && tgC (S.blk scope) tg1 ptg1 && tgIn (own.map (·.2)) tg1 && ck C.nb elt (S.blk scope) false pe
        | none => false) = true := hc
      rw [qa] at hc
      cases hc
    | some c => exact ⟨c, rfl⟩
  refine Snd.of hE ?_ ?_ (fun _ _ => by simp [cks]) (fun _ _ => by simp [cko]) (fun _ _ => by simp [ckc]) (fun _ p h => h)
  · intro S X H₀ τ δ σ nd H at_ p hc T hT Q h
    obtain ⟨c, qa⟩ := hx _ _ _ hc
    obtain ⟨pos, rfl⟩ := c2A_is qa
    exact wt_val (fun Q => hE at_ _ hc T hT Q) h
  · rintro S X H₀ τ δ σ nd H at_ p hc ⟨op, vs, pos, rfl⟩ T hT Q h
    obtain ⟨c, qa⟩ := hx _ _ _ hc
    obtain ⟨_, e⟩ := c2A_is qa
    cases e
end VS
set_option Elab.async false
set_option linter.all false
set_option maxRecDepth 100000
namespace VS
open PySem PySem.Spec L2
open PyProof.Rows hiding St
section
variable {C : Ctx}
theorem snd_comp {own : List (Str × Nat)} {tg : Tg} {it cnd elt : E} (ihi : Snd C it) (ihc : Snd C cnd) (ihe : Snd C elt) : Snd C (.comp own tg it cnd elt) := by
  have hE : ∀ {S X H₀ τ δ σ nd H}, At C S X H₀ τ δ σ nd H → ∀ (p : Expr), ck C.nb (.comp own tg it cnd elt) S false p = true → ∀ T, ty (.comp own tg it cnd elt) τ = some T → ∀ Q : VK, FinG X σ H (ev (.comp own tg it cnd elt) δ) (fun d H' => ∀ v, Vl X.K H₀ H H' nd T d v → Q v H') → WE X p σ H Q := by
    intro S X H₀ τ δ σ nd H at_ p hc T hT Q h
    cases p with
    | ListComp pe gs scope pos =>
      rcases gs with _ | ⟨⟨ptg, pit, pifs, n⟩, _ | ⟨_, _⟩⟩ <;> try (exfalso; revert hc; simp [ck]; done)
      rcases n with (_ | n) | n <;> try (exact absurd hc (by intro z; cases z))
      have hc1 : (blkC S.N S.sc scope own && plainX pit && ck C.nb it S true pit && tgC (S.blk scope) tg ptg && tgIn (own.map (·.2)) tg && ckc C.nb cnd (S.blk scope) pifs && ck C.nb elt (S.blk scope) false pe) = true := hc
      simp only [Bool.and_eq_true, decide_eq_true_eq] at hc1
      obtain ⟨⟨⟨⟨⟨⟨h1, h2⟩, h3⟩, h4⟩, h5⟩, h6⟩, h7⟩ := hc1
      have hT : ((ty it τ).bind fun Ti => (tyc cnd (setTy tg (some (.S, Ti.a)) (wipeT τ (own.map (·.2))))).bind fun _ =>
            (ty elt (setTy tg (some (.S, Ti.a)) (wipeT τ (own.map (·.2))))).bind fun U => some (compT Ti U)) = some T := hT
      obtain ⟨Ti, e1, hT⟩ := Option.bind_eq_some_iff.mp hT
      obtain ⟨⟨⟩, e2, hT⟩ := Option.bind_eq_some_iff.mp hT
      obtain ⟨U, e3, hT⟩ := Option.bind_eq_some_iff.mp hT
      cases hT
      have h : FinG X σ H (ev it δ >>= iterD >>= fun xs => nox (compL (compF tg cnd elt own δ) xs) >>= fun ys => .ok (PyData.list ys)) (fun d H' => ∀ v, Vl X.K H₀ H H' nd (compT Ti U) d v → Q v H') := h
      refine WE.kf (WE.of (pe_lc (own := own) at_.G.calm (by rw [at_.G.N]; exact at_.G.nd) pi_w (blkOk_by (by rw [at_.G.N, at_.G.sc]; exact h1)) gu_w qu_w eu_w (plain_folded h2)) ?_)
      refine comp_core ihi ihc ihe at_ h3 h4 h5 h6 h7 e1 e2 e3 ?_
      exact h
    | _ => exact absurd hc (by simp [ck])
  refine Snd.of hE ?_ ?_ (fun _ _ => by simp [cks]) (fun _ _ => by simp [cko]) (fun _ _ => by simp [ckc]) (fun _ p h => by
    cases p with
    | ListComp pe gs scope pos =>
      rcases gs with _ | ⟨⟨ptg, pit, pifs, n⟩, _ | ⟨_, _⟩⟩ <;> first | (exfalso; revert h; simp [ck]; done) | (rcases n with (_ | n) | n <;> first | exact h | exact absurd h (by intro z; cases z))
    | _ => exact absurd h (by simp [ck]))
  · intro S X H₀ τ δ σ nd H at_ p hc T hT Q h
    cases p with
    | ListComp pe gs scope pos =>
      rcases gs with _ | ⟨⟨ptg, pit, pifs, n⟩, _ | ⟨_, _⟩⟩ <;> try (exfalso; revert hc; simp [ck]; done)
      rcases n with (_ | n) | n <;> try (exact absurd hc (by intro z; cases z))
      exact wt_val (fun Q => hE at_ _ hc T hT Q) h
    | _ => exact absurd hc (by simp [ck])
  · rintro S X H₀ τ δ σ nd H at_ p hc ⟨op, vs, pos, rfl⟩ T hT Q h
    exact absurd hc (by simp [ck])
/-- every tree is sound -/
theorem snd : ∀ (e : E), okE C e → Snd C e
  | .sl i, _ => snd_sl i
  | .k c, _ => snd_k c
  | .gl x d, h => snd_gl h
  | .ari _ a b, h => snd_ari (snd a h.1) (snd b h.2)
  | .cat a b, h => snd_cat (snd a h.1) (snd b h.2)
  | .rep a b, h => snd_rep (snd a h.1) (snd b h.2)
  | .neg a, h => snd_neg (snd a h)
  | .not a, h => snd_not (snd a h)
  | .and a b, h => snd_and (snd a h.1) (snd b h.2)
  | .or a b, h => snd_or (snd a h.1) (snd b h.2)
  | .one a, h => snd_one (snd a h)
  | .cmp _ a b, h => snd_cmp (snd a h.1) (snd b h.2)
  | .chain _ _ a b c, h => snd_chain (snd a h.1) (snd b h.2.1) (snd c h.2.2)
  | .ife c a b, h => snd_ife (snd c h.1) (snd a h.2.1) (snd b h.2.2)
  | .tup es, h => snd_tup (snd es h)
  | .lst es, h => snd_lst (snd es h)
  | .nil, h => snd_nil
  | .cons a es, h => snd_cons (snd a h.1) (snd es h.2)
  | .ix a i, h => snd_ix (snd a h.1) (snd i h.2)
  | .slc a lo hi, h => snd_slc (snd a h.1) (snd lo h.2.1) (snd hi h.2.2)
  | .nop, h => snd_nop
  | .prt a, h => snd_prt (snd a h)
  | .call x F t es, h => snd_call h.1 (snd es h.2)
  | .blt _ es, h => snd_blt (snd es h)
  | .isi _ a, h => snd_isi (snd a h)
  | .comp _ _ it c e, h => snd_comp (snd it h.1) (snd c h.2.1) (snd e h.2.2)
  | .rng1 a, h => snd_rng1 (snd a h)
  | .rng2 a b, h => snd_rng2 (snd a h.1) (snd b h.2)
  | .cI a, h => snd_cI (snd a h)
  | .cL a, h => snd_cL (snd a h)
  | .pr1 _ a, h => snd_pr1 (snd a h)
  | .comp2 _ _ it _ it1 e, h => snd_comp2 (snd it h.1) (snd it1 h.2.1) (snd e h.2.2)
  | .pr2 _ a b, h => snd_pr2 (snd a h.1) (snd b h.2)
end
end VS
set_option Elab.async false
set_option linter.all false
set_option maxRecDepth 100000
namespace VS
open PySem PySem.Spec L2
open PyProof.Rows hiding St
/-! ### statements: the trees -/
inductive MOp where
  | app
  deriving DecidableEq
inductive S where
  | nil
  | seq (a b : S)
  | asg (tg : Tg) (e : E)
  | par (i j : Nat) (es : E)
  | mu (op : MOp) (tf : Bool) (p es : E)
  | setI (tf : Bool) (p i e : E)
  | ext (tf : Bool) (p e : E)
  | popL (im : Bool) (i j : Nat)
  | apo (i j : Nat) (e : E)
  | ret (e : E)
  | retS (i : Nat)
  | ife (c : E) (a b : S)
  | forE (tg : Tg) (it : E) (im : Bool) (τi : Tys) (body : S)
  | whi (fuel : Sl → Nat) (τi : Tys) (c : E) (body : S)
  | drop (e : E)
/-! ### what they do -/
inductive Out where
  | nx (δ : Sl)
  | rt (d : D)
  | ex (x : Ex) (δ : Sl)
  | no
def Out.thn (o : Out) (f : Sl → Out) : Out := match o with
  | .nx δ => f δ
  | .rt d => .rt d
  | .ex x δ => .ex x δ
  | .no => .no
def lft {α : Type} (δ : Sl) (r : R α) (f : α → Out) : Out := match r with
  | .ok a => f a
  | .ex x => .ex x δ
  | .no => .no
def forL (f : D → Sl → Out) : List D → Sl → Out
  | [], δ => .nx δ
  | x :: xs, δ => (f x δ).thn (forL f xs)
def whL (c : Sl → R Bool) (f : Sl → Out) : Nat → Sl → Out
  | 0, _ => .no
  | n + 1, δ => lft δ (c δ) fun b => match b with
    | true => (f δ).thn (whL c f n)
    | false => .nx δ
def stepD {α : Type} (xs : List α) (k : D) : Option Nat := match k with
  | .int n => ixN xs.length n
  | _ => none
def modG (tf : Bool) (f : List D → R (List D)) : List D → D → R D
  | [], .list xs => f xs >>= fun ys => .ok (.list ys)
  | k :: ks, .list xs => match stepD xs k with
    | some j => match xs[j]? with
      | some x => modG tf f ks x >>= fun y => .ok (.list (xs.set j y))
      | none => .no
    | none => .no
  | k :: ks, .tuple xs => match tf with
    | true => match stepD xs k with
      | some j => match xs[j]? with
        | some x => modG tf f ks x >>= fun y => .ok (.tuple (xs.set j y))
        | none => .no
      | none => .no
    | false => .no
  | _, _ => .no
def mop (op : MOp) (ds : List D) (xs : List D) : R (List D) := match op with
  | .app => match ds with
    | [d] => if xs.length < sizeLine then .ok (xs ++ [d]) else .no
    | _ => .no
def setD (i d : D) (xs : List D) : R (List D) := match stepD xs i with
  | some j => .ok (xs.set j d)
  | none => .no
def extD (y : D) (xs : List D) : R (List D) := match y with
  | .list ys => if xs.length + ys.length ≤ sizeLine then .ok (xs ++ ys) else .no
  | _ => .no
def slotL (δ : Sl) (i : Nat) : R (List D) := match δ[i]? with
  | some (some (.list xs)) => .ok xs
  | _ => .no
def popIx (xs : List D) (k : D) : R (List D × D) := match stepD xs k with
  | some m => match xs[m]? with
    | some y => if imm y = true then .ok (xs.eraseIdx m, y) else .no
    | none => .no
  | none => .no
/-- a path: its slot, its keys -/
def pthI : E → Nat
  | .ix p _ => pthI p
  | .sl i => i
  | _ => 0
def pthN : E → Nat
  | .ix p _ => pthN p + 1
  | _ => 0
def pthD : E → Sl → R (List D)
  | .sl _, _ => .ok []
  | .ix p i, δ => pthD p δ >>= fun ks => ev i δ >>= fun k => .ok (ks ++ [k])
  | _, _ => .no
def sev : S → Sl → Out
  | .nil, δ => .nx δ
  | .seq a b, δ => (sev a δ).thn (sev b)
  | .asg tg e, δ => lft δ (ev e δ) fun d => lft δ (setTg tg d δ) .nx
  | .par i j es, δ => lft δ (evl es δ) fun ds => lft δ (setTgs [i, j] ds δ) .nx
  | .mu op tf p es, δ => lft δ (nox (pthD p δ)) fun ks => lft δ (slotD δ (pthI p)) fun d => lft δ (nox (modG tf .ok ks d)) fun _ => lft δ (evl es δ) fun ds => lft δ (nox (modG tf (mop op ds) ks d)) fun d' => .nx (δ.set (pthI p) (some d'))
  | .setI tf p i e, δ => lft δ (ev e δ) fun y => lft δ (nox (pthD p δ)) fun ks => lft δ (nox (ev i δ)) fun k => lft δ (slotD δ (pthI p)) fun d => lft δ (nox (modG tf (setD k y) ks d)) fun d' => .nx (δ.set (pthI p) (some d'))
  | .ext tf p e, δ => lft δ (nox (pthD p δ)) fun ks => lft δ (slotD δ (pthI p)) fun d => lft δ (nox (modG tf .ok ks d)) fun _ => lft δ (ev e δ) fun y => lft δ (nox (modG tf (extD y) ks d)) fun d' => .nx (δ.set (pthI p) (some d'))
  | .popL im i j, δ => lft δ (slotD δ j) fun d => match d with
    | .list xs => match xs[xs.length - 1]? with
      | some y => if im = true → imm y = true then .nx ((δ.set i (some y)).set j (some (.list xs.dropLast))) else .no
      | none => .no
    | _ => .no
  | .apo i j e, δ => lft δ (nox (slotL δ i)) fun zs => lft δ (nox (slotL δ j)) fun xs => lft δ (ev e δ) fun k => lft δ (nox (popIx xs k)) fun p =>
    if zs.length < sizeLine then .nx ((δ.set j (some (.list p.1))).set i (some (.list (zs ++ [p.2])))) else .no
  | .ret e, δ => lft δ (ev e δ) .rt
  | .retS i, δ => lft δ (slotD δ i) .rt
  | .ife c a b, δ => lft δ (ev c δ >>= boolD) fun r => match r with
    | true => sev a δ
    | false => sev b δ
  | .forE tg it im _ body, δ => lft δ (ev it δ >>= iterD) fun xs => match (!im || immL xs) with
    | true => forL (fun x δ => lft δ (setTg tg x δ) (sev body)) xs δ
    | false => .no
  | .whi fuel _ c body, δ => whL (fun δ => ev c δ >>= boolD) (sev body) (fuel δ) δ
  | .drop e, δ => lft δ (ev e δ) fun _ => .nx δ
/-! ### a tree is the text's -/
def noComp : Expr → Bool
  | .ListComp .. => false
  | .SetComp .. => false
  | .DictComp .. => false
  | _ => true
def isComp : E → Bool
  | .comp .. => true
  | _ => false
def noLc (S : Scp) : Expr → Expr → Bool
  | .Name x _, e => noComp e || decide (S.sc.names.lookup x = some .cell)
  | _, e => noComp e
def lcOk (S : Scp) (l : Nat) : Expr → Expr → Bool
  | .Name x p, .ListComp _ _ scope pos => decide (S.sc.names.lookup x = some .local) && (p.line == pos.line) && !(scope.names.any fun (n, k) => n == x && (k == .local || k == .cell))
  | _, _ => false
def noSwap : Expr → Expr → Bool
  | .Tuple _ _ _, .Tuple vs _ _ => vs.all (foldedForSure 8)
  | _, _ => true
def parC (S : Scp) (i j : Nat) : Expr → Expr → Bool
  | .Tuple [.Name x px, .Name y py] _ _, .Tuple [a, b] _ _ => decide (S.N[i]? = some x) && decide (S.N[j]? = some y) && decide (i ≠ j) && decide (x ≠ y) && decide (S.sc.names.lookup x = some .local) && decide (S.sc.names.lookup y = some .local) &&
      (py.line == px.line) && plainX a && plainX b && !([a, b].all (foldedForSure 8)) && !([a, b].all (constantsAlone 8))
  | _, _ => false
def MOp.nm : MOp → String
  | .app => "append"
def isPth : E → Bool
  | .sl _ => true
  | .ix p _ => isPth p
  | _ => false
def cksT (nb : List Str) (es : E) (S : Scp) : Expr → Bool
  | .Tuple ps _ _ => cks nb es S ps
  | _ => false
/-- x = ys.pop() -/
def popA : Stmt → Option (Expr × Str)
  | .Assign [ptg] (.Call (.Attribute (.Name y _) name apos) [] [] cpos) _ => if decide (name = ("pop" : Str)) && (apos.endLine == cpos.line) then some (ptg, y) else none
  | _ => none
/-- xs.append(ys.pop(e)) -/
def apoA : Stmt → Option (Str × Str × Expr)
  | .Expr (.Call (.Attribute (.Name x _) name apos) [.Call (.Attribute (.Name y _) name2 apos2) [pa] [] cpos2] [] cpos) _ =>
    if decide (name = ("append" : Str)) && decide (name2 = ("pop" : Str)) && (apos.endLine == cpos.line) && (apos2.endLine == cpos2.line) then some (x, y, pa) else none
  | _ => none
mutual
def cs1 (nb : List Str) : S → Scp → Stmt → Bool
  | .asg tg e, S, .Assign [ptg] pe pos => tgC S tg ptg && ck nb e S false pe && (noLc S ptg pe || (isComp e && lcOk S pos.line ptg pe)) && noSwap ptg pe
  | .par i j es, S, .Assign [ptg] pe pos => parC S i j ptg pe && cksT nb es S pe
  | .mu op _ p es, S, .Expr (.Call (.Attribute po name apos) (pa :: ps) [] cpos) pos => decide (name = (op.nm : Str)) && (apos.endLine == cpos.line) && isPth p && ck nb p S false po && cks nb es S (pa :: ps) && decide (ps.length < 20)
  | .setI _ p i e, S, .Assign [.Subscript po pi _] pe pos => isPth p && ck nb p S false po && plainX pi && ck nb i S false pi && ck nb e S false pe
  | .ext _ p e, S, .Expr (.Call (.Attribute po name apos) [pa] [] cpos) _ => decide (name = ("extend" : Str)) && (apos.endLine == cpos.line) && isPth p && ck nb p S false po && plainX pa && ck nb e S false pa
  | .popL _ i j, S, st => match popA st with
    | some (ptg, y) => tgC S (.one i) ptg && visC S j y
    | none => false
  | .apo i j e, S, st => match apoA st with
    | some (x, y, pa) => visC S i x && visC S j y && plainX pa && ck nb e S false pa
    | none => false
  | .ret e, S, .Return (some pe) _ => ck nb e S false pe
  | .retS i, S, .Return (some (.Name x _)) _ => visC S i x
  | .ife c a b, S, .If pc pa pb _ => ck nb c S false pc && csk nb a S pa && csk nb b S pb
  | .forE tg it _ _ body, S, .For ptg pit pbody [] _ => ck nb it S true pit && plainX pit && tgC S tg ptg && csk nb body S pbody
  | .whi _ _ c body, S, .While pc pbody [] _ => ck nb c S false pc && csk nb body S pbody
  | .drop e, S, .Expr pe pos => ck nb e S false pe && noComp pe
  | _, _, _ => false
def csk (nb : List Str) : S → Scp → List Stmt → Bool
  | .nil, _, [] => true
  | .seq a b, S, st :: rest => cs1 nb a S st && csk nb b S rest
  | _, _, _ => false
end
/-! ### who owns what, behind them -/
def leTy1 : Option (Option (Ty × Bool)) → Option (Option (Ty × Bool)) → Bool
  | some (some (t, a)), some (some (u, b)) => Ty.le t u && (!a || b)
  | _, some (some _) => false
  | _, _ => true
def leTys (τ τ' : Tys) : Bool := (List.range τ'.length).all fun i => leTy1 τ[i]? τ'[i]?
def joinTy1 : Option (Ty × Bool) → Option (Ty × Bool) → Option (Ty × Bool)
  | some (t, a), some (u, b) => some (Ty.join t u, a || b)
  | _, _ => none
def joinTys (τ τ' : Tys) : Tys := List.zipWith joinTy1 τ τ'
def joinO : Option Tys → Option Tys → Option Tys
  | none, r => r
  | r, none => r
  | some τ, some τ' => some (joinTys τ τ')
def demT (τ : Tys) (B : List Nat) : Tys := B.foldl (fun τ j => match τ[j]? with
  | some (some (_, a)) => τ.set j (some (.S, a))
  | _ => τ) τ
/-- the type of a list's items at the end of a path -/
def tyAt : Nat → Ty → Option Ty
  | _, .S => none
  | _, .F => some .F
  | 0, .L t => some t
  | n + 1, .L t => tyAt n t
/-- the type behind a write of u -/
def wkP : Nat → Ty → Ty → Ty
  | 0, t, u => if t = .F ∧ u = .F then .F else .L (Ty.join t.el u)
  | n + 1, t, u => if t = .F ∧ u = .F then .F else .L (wkP n t.el u)
def ptyOk : E → Tys → Bool
  | .sl _, _ => true
  | .ix p i, τ => ptyOk p τ && (ty i τ).isSome
  | _, _ => false
structure SC where
  rt : Ty
  τx : Tys
def ifB {α : Type} (b : Bool) (o : Option α) : Option α := match b with
  | true => o
  | false => none
def muT (tf : Bool) (i n : Nat) (T : Tv) (τ : Tys) : Option Tys := match (demT τ T.B)[i]? with
  | some (some (t, a)) => ifB ((tyAt n t).isSome && decide (i ∉ T.B) && (!tf || (decide (t = .F) && decide (T.nm = .F)))) (some ((demT τ T.B).set i (some (wkP n t T.nm, a || T.a))))
  | _ => none
/-- the items of a list -/
def extT (T : Tv) : Tv := ⟨T.nm.el, T.B, T.a⟩
def leO (r : Option Tys) (τ : Tys) : Bool := match r with
  | none => true
  | some τ' => leTys τ' τ
def sty (c : SC) : S → List Nat → Tys → Option (Option Tys)
  | .nil, _, τ => some (some τ)
  | .seq a b, fz, τ => (sty c a fz τ).bind fun r => match r with
    | some τ' => sty c b fz τ'
    | none => some none
  | .asg (.one i) e, _, τ => ifB (leTys τ c.τx) ((ty e τ).bind fun T => some (some ((demT τ T.B).set i (some (T.t, T.a)))))
  | .asg (.tup is) e, _, τ => ifB (leTys τ c.τx) ((ty e τ).bind fun T => some (some (setTy (.tup is) (some (if T.nm = .F then (.F, false) else (.S, T.a))) (demT τ T.B))))
  | .par i j es, _, τ => ifB (leTys τ c.τx) ((tys es τ).bind fun T => some (some (setTy (.tup [i, j]) (some (T.nm, T.a)) (demT τ T.B))))
  | .mu _ tf p es, fz, τ => ifB (leTys τ c.τx && ptyOk p τ && decide (pthI p ∉ fz)) ((tys es τ).bind fun T => (muT tf (pthI p) (pthN p) T τ).bind fun τ' => some (some τ'))
  | .setI tf p i e, fz, τ => ifB (leTys τ c.τx && ptyOk p τ && (ty i τ).isSome && decide (pthI p ∉ fz)) ((ty e τ).bind fun T => (muT tf (pthI p) (pthN p) T τ).bind fun τ' => some (some τ'))
  | .ext tf p e, fz, τ => ifB (leTys τ c.τx && ptyOk p τ && decide (pthI p ∉ fz)) ((ty e τ).bind fun T => ifB (decide (T.nm ≠ .S)) ((muT tf (pthI p) (pthN p) (extT T) τ).bind fun τ' => some (some τ')))
  | .popL im i j, fz, τ => ifB (leTys τ c.τx && decide (i ≠ j) && decide (j ∉ fz)) (match τ[j]? with
    | some (some (t, a)) => ifB (im || decide (t = .L .S)) ((muT false j 0 .fr (τ.set i (some (if im = true then (.F, false) else (.S, a))))).bind fun τ' => some (some τ'))
    | _ => none)
  | .apo i j e, fz, τ => ifB (leTys τ c.τx && decide (i ≠ j) && decide (i ∉ fz) && decide (j ∉ fz)) ((ty e τ).bind fun _ => (muT false j 0 .fr τ).bind fun τ1 => (muT false i 0 .fr τ1).bind fun τ' => some (some τ'))
  | .ret e, _, τ => ifB (leTys τ c.τx) ((ty e τ).bind fun T => ifB (Ty.le T.t c.rt) (some none))
  | .retS i, _, τ => match τ[i]? with
    | some (some (t, _)) => ifB (Ty.le t c.rt) (some none)
    | _ => none
  | .ife e a b, fz, τ => ifB (leTys τ c.τx) ((ty e τ).bind fun _ => (sty c a fz τ).bind fun r1 => (sty c b fz τ).bind fun r2 => some (joinO r1 r2))
  | .forE tg it im τi body, fz, τ => ifB (leTys τ c.τx && leTys τ τi) ((ty it τ).bind fun T => ifB (im || T.B.all fun j => match τi[j]? with
      | some (some (t, _)) => decide (t = .S)
      | _ => true) ((sty c body (fz ++ T.B) (setTy tg (some (if im = true then (.F, false) else (.S, T.a))) τi)).bind fun r => ifB (leO r τi) (some (some τi))))
  | .whi _ τi e body, fz, τ => ifB (leTys τ τi && leTys τi c.τx) ((ty e τi).bind fun _ => (sty c body fz τi).bind fun r => ifB (leO r τi) (some (some τi)))
  | .drop e, _, τ => ifB (leTys τ c.τx) ((ty e τ).bind fun _ => some (some τ))
end VS
set_option Elab.async false
set_option linter.all false
set_option maxRecDepth 100000
namespace VS
open PySem PySem.Spec L2
open PyProof.Rows hiding St
/-! ### the slots between statements -/
/-- what must stay: the pinned nodes (each with the slots that may own it) and a promise about the heap -/
structure Keep where
  pn : List (Addr × List Nat)
  J : Hp → Prop
structure KeepOk (W : Keep) : Prop where
  same : ∀ H H', Same H H' → W.J H → W.J H'
  upd : ∀ H a u, MutAt H a → (∀ q ∈ W.pn, q.1 ≠ a) → W.J H → W.J (upd H a u)
/-- a slot's value may lie so -/
structure SlOk (K : PySem.W.Frag) (H₀ : Hp) (A₀ : List Addr) (H : Hp) (p : List Addr × List Addr) : Prop where
  nd : p.1.Nodup
  ap : ∀ b ∈ p.1, b ∉ p.2
  new : ∀ b ∈ p.1, New K H₀ b ∧ MutAt H b
  shr : ∀ b ∈ p.2, New K H₀ b ∨ b ∈ A₀
  old : ∀ b, b ∈ p.1 ∨ b ∈ p.2 → Old K H b
structure SI (K : PySem.W.Frag) (H₀ : Hp) (A₀ : List Addr) (W : Keep) (τ : Tys) (δ : Sl) (σ : St) (nd : List (List Addr × List Addr)) (H : Hp) : Prop where
  kf : KF K H
  sm : Same H₀ H
  ls : σ.length = δ.length
  ln : nd.length = δ.length
  rep : ∀ (i : Nat) (d : D) (t : Ty) (a : Bool), δ[i]? = some (some d) → τ[i]? = some (some (t, a)) → ∃ v o s, σ[i]? = some (some v) ∧ nd[i]? = some (o, s) ∧ Rw K H d t v o s ∧ (a = false → ∀ b ∈ s, New K H₀ b)
  slot : ∀ (i : Nat) (p : List Addr × List Addr), nd[i]? = some p → SlOk K H₀ A₀ H p
  sep : ∀ (i j : Nat) (p q : List Addr × List Addr), nd[i]? = some p → nd[j]? = some q → i ≠ j → ∀ b ∈ p.1, b ∉ q.1 ∧ b ∉ q.2
  pin : ∀ q ∈ W.pn, Old K H q.1 ∧ ∀ (i : Nat) (p : List Addr × List Addr), nd[i]? = some p → q.1 ∈ p.1 → i ∈ q.2
  J : W.J H
section
variable {K : PySem.W.Frag} {H₀ H H1 : Hp} {A₀ : List Addr} {W : Keep} {τ τ' : Tys} {δ : Sl} {σ : St} {nd : List (List Addr × List Addr)}
theorem SI.sv (h : SI K H₀ A₀ W τ δ σ nd H) : SV K H₀ H τ δ σ nd where
  kf := h.kf
  sm := h.sm
  ls := h.ls
  ln := h.ln
  rep := h.rep
  old := fun i p e => (h.slot i p e).old
  own := fun i p e => (h.slot i p e).new
theorem SlOk.grow {p : List Addr × List Addr} (e : Same H H1) (h : SlOk K H₀ A₀ H p) : SlOk K H₀ A₀ H1 p where
  nd := h.nd
  ap := h.ap
  new := fun b hb => ⟨(h.new b hb).1, let ⟨u, hu, m⟩ := (h.new b hb).2; ⟨u, e _ _ hu, m⟩⟩
  shr := h.shr
  old := fun b hb n => h.old b hb (n.back e)
theorem SI.grow (ok : KeepOk W) (e : Same H H1) (kf : KF K H1) (h : SI K H₀ A₀ W τ δ σ nd H) : SI K H₀ A₀ W τ δ σ nd H1 where
  kf := kf
  sm := h.sm.trans e
  ls := h.ls
  ln := h.ln
  rep := fun i d t a h1 h2 => by
    obtain ⟨v, o, s, h3, h4, h5, h6⟩ := h.rep i d t a h1 h2
    exact ⟨v, o, s, h3, h4, Rw.same e d h5, h6⟩
  slot := fun i p h1 => (h.slot i p h1).grow e
  sep := h.sep
  pin := fun q hq => ⟨fun n => (h.pin q hq).1 (n.back e), (h.pin q hq).2⟩
  J := ok.same _ _ e h.J
/-- fewer things to keep -/
theorem SI.less {W' : Keep} (hp : ∀ q ∈ W'.pn, q ∈ W.pn) (hJ : W.J H → W'.J H) (h : SI K H₀ A₀ W τ δ σ nd H) : SI K H₀ A₀ W' τ δ σ nd H :=
  ⟨h.kf, h.sm, h.ls, h.ln, h.rep, h.slot, h.sep, fun q hq => h.pin q (hp q hq), hJ h.J⟩
/-- more things to keep -/
theorem SI.more {W' : Keep} (h : SI K H₀ A₀ W τ δ σ nd H) (hp : ∀ q ∈ W'.pn, q ∈ W.pn ∨ (Old K H q.1 ∧ ∀ (i : Nat) (p : List Addr × List Addr), nd[i]? = some p → q.1 ∈ p.1 → i ∈ q.2)) (hJ : W'.J H) : SI K H₀ A₀ W' τ δ σ nd H :=
  ⟨h.kf, h.sm, h.ls, h.ln, h.rep, h.slot, h.sep, fun q hq => (hp q hq).elim (h.pin q) id, hJ⟩
theorem exists_list {α : Type} {P : Nat → α → Prop} : ∀ (n : Nat), (∀ i < n, ∃ p, P i p) → ∃ l : List α, l.length = n ∧ ∀ i p, l[i]? = some p → P i p
  | 0, _ => ⟨[], rfl, fun i p h => by simp at h⟩
  | n + 1, h => by
    obtain ⟨l, h1, h2⟩ := exists_list n fun i hi => h i (by omega)
    obtain ⟨p, hp⟩ := h n (by omega)
    refine ⟨l ++ [p], by simp [h1], fun i q hq => ?_⟩
    by_cases hi : i < l.length
    · rw [List.getElem?_append_left hi] at hq; exact h2 i q hq
    · have := (List.getElem?_eq_some_iff.mp hq).1
      simp at this
      have e : i = l.length := by omega
      subst e
      simp at hq
      subst hq
      rw [h1]; exact hp
/-- what became of the nodes -/
structure NdLe (τ' : Tys) (nd nd' : List (List Addr × List Addr)) : Prop where
  sub : ∀ (j : Nat) (p' : List Addr × List Addr), nd'[j]? = some p' → ∃ p, nd[j]? = some p ∧ (∀ b ∈ p'.1, b ∈ p.1) ∧ (∀ b ∈ p'.2, b ∈ p.1 ∨ b ∈ p.2)
  shr : ∀ (j : Nat) (p' : List Addr × List Addr) (a : Bool), nd'[j]? = some p' → τ'[j]? = some (some (Ty.S, a)) → p'.1 = []
  non : ∀ (j : Nat) (p' : List Addr × List Addr), nd'[j]? = some p' → (∀ x, τ'[j]? ≠ some (some x)) → p' = ([], [])
theorem leTys_get (h : leTys τ τ' = true) {i : Nat} {t : Ty} {a : Bool} (e : τ'[i]? = some (some (t, a))) : ∃ u b, τ[i]? = some (some (u, b)) ∧ Ty.le u t = true ∧ (a = false → b = false) := by
  unfold leTys at h
  have hi : i < τ'.length := (List.getElem?_eq_some_iff.mp e).1
  have := List.all_eq_true.mp h i (List.mem_range.mpr hi)
  rw [e] at this
  cases q : τ[i]? with
  | none => rw [q] at this; simp [leTy1] at this
  | some x => cases x with
    | none => rw [q] at this; simp [leTy1] at this
    | some y =>
      obtain ⟨u, b⟩ := y
      rw [q] at this
      simp only [leTy1, Bool.and_eq_true, Bool.or_eq_true, Bool.not_eq_true'] at this
      refine ⟨u, b, rfl, this.1, fun ha => ?_⟩
      rcases this.2 with z | z
      · exact z
      · rw [ha] at z; cases z
theorem SI.weak (h : SI K H₀ A₀ W τ δ σ nd H) (hle : leTys τ τ' = true) : ∃ nd', SI K H₀ A₀ W τ' δ σ nd' H ∧ NdLe τ' nd nd' := by
  have key : ∃ nd' : List (List Addr × List Addr), nd'.length = nd.length ∧ ∀ (i : Nat) (p' : List Addr × List Addr), nd'[i]? = some p' → ∃ p : List Addr × List Addr, nd[i]? = some p ∧
      ((∃ (d : D) (t : Ty) (a : Bool) (v : V), δ[i]? = some (some d) ∧ τ'[i]? = some (some (t, a)) ∧ σ[i]? = some (some v) ∧ Rw K H d t v p'.1 p'.2 ∧ (a = false → ∀ b ∈ p'.2, New K H₀ b) ∧ Less p.1 p.2 p'.1 p'.2) ∨
      (p' = ([], []) ∧ ∀ (d : D) (x : Ty × Bool), δ[i]? = some (some d) → τ'[i]? = some (some x) → False)) := by
    refine exists_list _ fun i hi => ?_
    have hp : nd[i]? = some nd[i] := by simp [hi]
    by_cases c : ∃ d t a, δ[i]? = some (some d) ∧ τ'[i]? = some (some (t, a))
    · obtain ⟨d, t, a, hd, ht⟩ := c
      obtain ⟨u, b, hu, hle1, hab⟩ := leTys_get hle ht
      obtain ⟨v, o, s, h1, h2, h3, h4⟩ := h.rep i d u b hd hu
      obtain ⟨p, q, h5, h6⟩ := Rw.less d hle1 h3
      refine ⟨(p, q), (o, s), h2, .inl ⟨d, t, a, v, hd, ht, h1, h5, fun ha x hx => ?_, h6⟩⟩
      rcases h6.mem hx with z | z
      · exact ((h.slot i _ h2).new x z).1
      · exact h4 (hab ha) x z
    · exact ⟨([], []), nd[i], hp, .inr ⟨rfl, fun d x hd hx => c ⟨d, x.1, x.2, hd, hx⟩⟩⟩
  obtain ⟨nd', hl, hP⟩ := key
  have sub : ∀ (j : Nat) (p' : List Addr × List Addr), nd'[j]? = some p' → ∃ p, nd[j]? = some p ∧ (∀ b ∈ p'.1, b ∈ p.1) ∧ (∀ b ∈ p'.2, b ∈ p.1 ∨ b ∈ p.2) ∧ SlOk K H₀ A₀ H p' := fun j p' hj => by
    obtain ⟨p, hp, ⟨_, _, _, _, _, _, _, _, _, l⟩ | ⟨rfl, _⟩⟩ := hP j p' hj
    · have so := h.slot j p hp
      refine ⟨p, hp, fun b hb => l.omem hb, fun b hb => l.mem hb, l.nodup so.nd, l.apart so.nd so.ap, fun b hb => so.new b (l.omem hb), fun b hb => ?_, fun b hb => ?_⟩
      · rcases l.mem hb with z | z
        · exact .inl (so.new b z).1
        · exact so.shr b z
      · rcases hb with z | z
        · exact so.old b (.inl (l.omem z))
        · exact so.old b (l.mem z)
    · exact ⟨p, hp, by simp, by simp, by simp, by simp, by simp, by simp, by simp⟩
  refine ⟨nd', ⟨h.kf, h.sm, h.ls, hl.trans h.ln, fun i d t a hd ht => ?_, fun i p hp => ?_, fun i j p q hp hq ne b hb => ?_, fun q hq => ⟨(h.pin q hq).1, fun i p hp hb => ?_⟩, h.J⟩, ⟨fun j p' hj => ?_, fun j p' a hj ht => ?_, fun j p' hj hn => ?_⟩⟩
  · have hi : i < nd'.length := by rw [hl, h.ln]; exact (List.getElem?_eq_some_iff.mp hd).1
    have hp : nd'[i]? = some nd'[i] := by simp [hi]
    obtain ⟨p, hp2, ⟨d', t', a', v, e1, e2, e3, e4, e5, _⟩ | ⟨_, z⟩⟩ := hP i _ hp
    · rw [hd] at e1; cases e1
      rw [ht] at e2; cases e2
      exact ⟨v, nd'[i].1, nd'[i].2, e3, hp, e4, e5⟩
    · exact (z d _ hd ht).elim
  · obtain ⟨_, _, _, _, so⟩ := sub i p hp
    exact so
  · obtain ⟨p0, h1, h2, h3, _⟩ := sub i p hp
    obtain ⟨q0, k1, k2, k3, _⟩ := sub j q hq
    have := h.sep i j p0 q0 h1 k1 ne b (h2 b hb)
    exact ⟨fun z => this.1 (k2 b z), fun z => (k3 b z).elim this.1 this.2⟩
  · obtain ⟨p0, h1, h2, _⟩ := sub i p hp
    exact (h.pin q hq).2 i p0 h1 (h2 _ hb)
  · obtain ⟨p, h1, h2, h3, _⟩ := sub j p' hj
    exact ⟨p, h1, h2, h3⟩
  · obtain ⟨p, hp2, ⟨d', t', a', v, e1, e2, e3, e4, e5, _⟩ | ⟨e, z⟩⟩ := hP j p' hj
    · rw [ht] at e2; cases e2
      exact Rw.s_o _ e4
    · rw [e]
  · obtain ⟨p, hp2, ⟨d', t', a', v, e1, e2, e3, e4, e5, _⟩ | ⟨e, z⟩⟩ := hP j p' hj
    · exact (hn _ e2).elim
    · exact e
theorem demT_step (τ : Tys) (j : Nat) : leTys τ (match τ[j]? with
  | some (some (_, a)) => τ.set j (some (.S, a))
  | _ => τ) = true := by
  have refl : leTys τ τ = true := by
    unfold leTys
    refine List.all_eq_true.mpr fun i _ => ?_
    rcases τ[i]? with _ | _ | ⟨t, a⟩ <;> simp [leTy1, Ty.le_refl]
  split
  · rename_i t a e
    unfold leTys
    refine List.all_eq_true.mpr fun i hi => ?_
    by_cases hj : j = i
    · subst hj
      have : j < τ.length := by simpa using hi
      rw [List.getElem?_set_self this, e]
      simp [leTy1, Ty.le_S]
    · rw [List.getElem?_set_ne hj]
      rcases τ[i]? with _ | _ | ⟨t, a⟩ <;> simp [leTy1, Ty.le_refl]
  · exact refl
theorem leTys_refl (τ : Tys) : leTys τ τ = true := by
  unfold leTys
  refine List.all_eq_true.mpr fun i _ => ?_
  rcases τ[i]? with _ | _ | ⟨t, a⟩ <;> simp [leTy1, Ty.le_refl]
theorem Ty.le_trans : ∀ {a b c : Ty}, Ty.le a b = true → Ty.le b c = true → Ty.le a c = true
  | _, _, .S, _, _ => Ty.le_S _
  | .F, .F, .F, _, _ => rfl
  | .F, .F, .L _, _, h => h
  | .F, .L b, .L c, h, h' => Ty.le_trans (a := .F) (b := b) (c := c) h h'
  | .L a, .L b, .L c, h, h' => Ty.le_trans (a := a) (b := b) (c := c) h h'
  | .F, .S, .F, _, h => nomatch h
  | .F, .S, .L _, _, h => nomatch h
  | .F, .L _, .F, _, h => nomatch h
  | .S, .S, .F, _, h => nomatch h
  | .S, .S, .L _, _, h => nomatch h
  | .S, .F, _, h, _ => nomatch h
  | .S, .L _, _, h, _ => nomatch h
  | .L _, .S, .F, _, h => nomatch h
  | .L _, .S, .L _, _, h => nomatch h
  | .L _, .F, _, h, _ => nomatch h
  | .L _, .L _, .F, _, h => nomatch h
theorem leTys_trans {τ'' : Tys} (h : leTys τ τ' = true) (h' : leTys τ' τ'' = true) : leTys τ τ'' = true := by
  unfold leTys
  refine List.all_eq_true.mpr fun i hi => ?_
  cases q : τ''[i]? with
  | none => cases τ[i]? with
    | none => rfl
    | some x => rcases x with _ | ⟨t, a⟩ <;> rfl
  | some y => cases y with
    | none => cases τ[i]? with
      | none => rfl
      | some x => rcases x with _ | ⟨t, a⟩ <;> rfl
    | some y =>
      obtain ⟨t, a⟩ := y
      obtain ⟨u, b, e1, l1, i1⟩ := leTys_get h' q
      obtain ⟨w, c, e2, l2, i2⟩ := leTys_get h e1
      rw [e2]
      simp only [leTy1, Bool.and_eq_true, Bool.or_eq_true, Bool.not_eq_true']
      refine ⟨Ty.le_trans l2 l1, ?_⟩
      cases a with
      | true => exact .inr rfl
      | false => exact .inl (i2 (i1 rfl))
theorem demT_le : ∀ (B : List Nat) (τ : Tys), leTys τ (demT τ B) = true
  | [], τ => leTys_refl τ
  | j :: B, τ => leTys_trans (demT_step τ j) (demT_le B _)
theorem demT_S : ∀ (B : List Nat) (τ : Tys) (i : Nat), i ∈ B → ∀ t a, (demT τ B)[i]? = some (some (t, a)) → t = .S
  | j :: B, τ, i, h, t, a, e => by
    have e : (demT _ B)[i]? = some (some (t, a)) := e
    obtain ⟨u, b, e1, l1, _⟩ := leTys_get (demT_le B _) e
    by_cases hj : i = j
    · subst hj
      have e1 : (match τ[i]? with
        | some (some (_, a)) => τ.set i (some (.S, a))
        | _ => τ)[i]? = some (some (u, b)) := e1
      split at e1
      · rename_i e2
        have hl : i < τ.length := (List.getElem?_eq_some_iff.mp e2).1
        rw [List.getElem?_set_self hl] at e1
        cases e1
        cases t with
        | S => rfl
        | _ => cases l1
      · rename_i h2
        exact (h2 _ _ e1).elim
    · exact demT_S B _ i ((List.mem_cons.mp h).resolve_left hj) t a e
/-- the aliased slots own nothing any more -/
theorem SI.dem (h : SI K H₀ A₀ W τ δ σ nd H) (B : List Nat) : ∃ nd', SI K H₀ A₀ W (demT τ B) δ σ nd' H ∧ (∀ (j : Nat) (p' : List Addr × List Addr), nd'[j]? = some p' → (∃ p, nd[j]? = some p ∧ (∀ b ∈ p'.1, b ∈ p.1) ∧ (∀ b ∈ p'.2, b ∈ p.1 ∨ b ∈ p.2)) ∧ (j ∈ B → p'.1 = [])) := by
  obtain ⟨nd', h', n⟩ := h.weak (demT_le B τ)
  refine ⟨nd', h', fun j p' hj => ⟨n.sub j p' hj, fun hb => ?_⟩⟩
  by_cases c : ∃ x, (demT τ B)[j]? = some (some x)
  · obtain ⟨⟨t, a⟩, e⟩ := c
    have := demT_S B τ j hb t a e
    subst this
    exact n.shr j p' a hj e
  · rw [n.non j p' hj fun x e => c ⟨x, e⟩]
/-- a value put into a slot -/
theorem SI.put {i : Nat} {d : D} {t : Ty} {a : Bool} {v : V} {o s : List Addr} (h : SI K H₀ A₀ W τ δ σ nd H) (r : Rw K H d t v o s) (no : o.Nodup) (ho : ∀ b ∈ o, New K H₀ b ∧ b ∉ s)
    (hx : ∀ b ∈ o, ∀ (j : Nat) (p : List Addr × List Addr), nd[j]? = some p → j ≠ i → b ∉ p.1 ∧ b ∉ p.2) (hp : ∀ q ∈ W.pn, q.1 ∈ o → i ∈ q.2)
    (hs : ∀ b ∈ s, New K H₀ b ∨ b ∈ A₀) (hsx : ∀ b ∈ s, ∀ (j : Nat) (p : List Addr × List Addr), nd[j]? = some p → j ≠ i → b ∉ p.1) (ha : a = false → ∀ b ∈ s, New K H₀ b) :
    SI K H₀ A₀ W (τ.set i (some (t, a))) (δ.set i (some d)) (σ.set i (some v)) (nd.set i (o, s)) H where
  kf := h.kf
  sm := h.sm
  ls := by rw [List.length_set, List.length_set]; exact h.ls
  ln := by rw [List.length_set, List.length_set]; exact h.ln
  rep := fun j e t' b h1 h2 => by
    by_cases hj : i = j
    · subst hj
      have hl : i < δ.length := by
        have := (List.getElem?_eq_some_iff.mp h1).1
        simpa using this
      have hl2 : i < τ.length := by
        have := (List.getElem?_eq_some_iff.mp h2).1
        simpa using this
      rw [List.getElem?_set_self hl] at h1
      rw [List.getElem?_set_self hl2] at h2
      cases h1
      cases h2
      exact ⟨v, o, s, List.getElem?_set_self (by rw [h.ls]; exact hl), List.getElem?_set_self (by rw [h.ln]; exact hl), r, ha⟩
    · rw [List.getElem?_set_ne hj] at h1 h2
      obtain ⟨w, o, s', h3, h4, h5⟩ := h.rep j e t' b h1 h2
      exact ⟨w, o, s', by rw [List.getElem?_set_ne hj]; exact h3, by rw [List.getElem?_set_ne hj]; exact h4, h5⟩
  slot := fun j p h1 => by
    by_cases hj : i = j
    · subst hj
      have hl : i < nd.length := by
        have := (List.getElem?_eq_some_iff.mp h1).1
        simpa using this
      rw [List.getElem?_set_self hl] at h1
      cases h1
      exact ⟨no, fun b hb => (ho b hb).2, fun b hb => ⟨(ho b hb).1, Rw.mut d r b hb⟩, hs, Rw.old d r⟩
    · rw [List.getElem?_set_ne hj] at h1
      exact h.slot j p h1
  sep := fun j k p q h1 h2 ne b hb => by
    by_cases hj : i = j
    · subst hj
      have hl : i < nd.length := by
        have := (List.getElem?_eq_some_iff.mp h1).1
        simpa using this
      rw [List.getElem?_set_self hl] at h1
      cases h1
      rw [List.getElem?_set_ne ne] at h2
      exact hx b hb k q h2 (Ne.symm ne)
    · rw [List.getElem?_set_ne hj] at h1
      by_cases hk : i = k
      · subst hk
        have hl : i < nd.length := by
          have := (List.getElem?_eq_some_iff.mp h2).1
          simpa using this
        rw [List.getElem?_set_self hl] at h2
        cases h2
        exact ⟨fun z => (hx b z j p h1 ne).1 hb, fun z => hsx b z j p h1 ne hb⟩
      · rw [List.getElem?_set_ne hk] at h2
        exact h.sep j k p q h1 h2 ne b hb
  pin := fun q hq => ⟨(h.pin q hq).1, fun j p h1 hb => by
    by_cases hj : i = j
    · subst hj
      have hl : i < nd.length := by
        have := (List.getElem?_eq_some_iff.mp h1).1
        simpa using this
      rw [List.getElem?_set_self hl] at h1
      cases h1
      exact hp q hq hb
    · rw [List.getElem?_set_ne hj] at h1
      exact (h.pin q hq).2 j p h1 hb⟩
  J := h.J
/-- what a value leans on lies apart from the slots -/
structure ApartN (K : PySem.W.Frag) (H₀ : Hp) (A₀ : List Addr) (W : Keep) (nd : List (List Addr × List Addr)) (o s : List Addr) : Prop where
  dis : o.Nodup
  ap : ∀ b ∈ o, b ∉ s
  new : ∀ b ∈ o, New K H₀ b
  out : ∀ b ∈ o, ∀ (j : Nat) (p : List Addr × List Addr), nd[j]? = some p → b ∉ p.1 ∧ b ∉ p.2
  pin : ∀ q ∈ W.pn, q.1 ∉ o
  shr : ∀ b ∈ s, New K H₀ b ∨ b ∈ A₀
  free : ∀ b ∈ s, ∀ (j : Nat) (p : List Addr × List Addr), nd[j]? = some p → b ∉ p.1
theorem SI.putA {i : Nat} {d : D} {t : Ty} {a : Bool} {v : V} {o s : List Addr} (h : SI K H₀ A₀ W τ δ σ nd H) (r : Rw K H d t v o s) (A : ApartN K H₀ A₀ W nd o s) (ha : a = false → ∀ b ∈ s, New K H₀ b) :
    SI K H₀ A₀ W (τ.set i (some (t, a))) (δ.set i (some d)) (σ.set i (some v)) (nd.set i (o, s)) H :=
  h.put r A.dis (fun b hb => ⟨A.new b hb, A.ap b hb⟩) (fun b hb j p hp _ => A.out b hb j p hp) (fun q hq hb => (A.pin q hq hb).elim) A.shr (fun b hb j p hp _ => A.free b hb j p hp) ha
/-- an expression's value, the aliased slots demoted -/
theorem ApartN.of {H0 : Hp} {nd' : List (List Addr × List Addr)} {B : List Nat} {o s : List Addr} (sm : Same H₀ H0) (h : SI K H₀ A₀ W τ δ σ nd H0) (no : o.Nodup) (ho : ∀ b ∈ o, New K H0 b ∧ b ∉ s)
    (hs : ∀ b ∈ s, New K H0 b ∨ ∃ i p, nd[i]? = some p ∧ (b ∈ p.2 ∨ (i ∈ B ∧ b ∈ p.1)))
    (hd : ∀ (j : Nat) (p' : List Addr × List Addr), nd'[j]? = some p' → (∃ p, nd[j]? = some p ∧ (∀ b ∈ p'.1, b ∈ p.1) ∧ (∀ b ∈ p'.2, b ∈ p.1 ∨ b ∈ p.2)) ∧ (j ∈ B → p'.1 = [])) : ApartN K H₀ A₀ W nd' o s where
  dis := no
  ap := fun b hb => (ho b hb).2
  new := fun b hb => (ho b hb).1.back sm
  out := fun b hb j p' hj => by
    obtain ⟨⟨p, hp, h1, h2⟩, _⟩ := hd j p' hj
    have ol := (h.slot j p hp).old b
    exact ⟨fun z => ol (.inl (h1 b z)) (ho b hb).1, fun z => ol (h2 b z) (ho b hb).1⟩
  pin := fun q hq hb => (h.pin q hq).1 (ho _ hb).1
  shr := fun b hb => by
    rcases hs b hb with z | ⟨i, p, hp, z | ⟨_, z⟩⟩
    · exact .inl (z.back sm)
    · exact (h.slot i p hp).shr b z
    · exact .inl ((h.slot i p hp).new b z).1
  free := fun b hb j p' hj z => by
    obtain ⟨⟨p, hp, h1, h2⟩, hB⟩ := hd j p' hj
    rcases hs b hb with n | ⟨i, q, hq, y | ⟨hi, y⟩⟩
    · exact (h.slot j p hp).old b (.inl (h1 b z)) n
    · by_cases e : j = i
      · subst e
        rw [hp] at hq; cases hq
        exact (h.slot j p hp).ap b (h1 b z) y
      · exact (h.sep j i p q hp hq e b (h1 b z)).2 y
    · by_cases e : j = i
      · subst e
        rw [hB hi] at z
        exact nomatch z
      · exact (h.sep j i p q hp hq e b (h1 b z)).1 y
end
end VS
set_option Elab.async false
set_option linter.all false
set_option maxRecDepth 100000
namespace VS
open PySem PySem.Spec L2
open PyProof.Rows hiding St
/-! ### writes -/
def PathV (K : PySem.W.Frag) (H : Hp) : V → List D → V → Prop
  | v, [], w => w = v
  | v, k :: ks, w => ∃ a vs j x, v = .ref a ∧ (SqL K H a vs ∨ SqT K H a vs) ∧ stepD vs k = some j ∧ vs[j]? = some x ∧ PathV K H x ks w
theorem PathV.snoc {K : PySem.W.Frag} {H : Hp} : ∀ (ks : List D) {v w x : V} {k : D} {a : Addr} {vs : List V} {j : Nat}, PathV K H v ks w → w = .ref a → (SqL K H a vs ∨ SqT K H a vs) → stepD vs k = some j → vs[j]? = some x → PathV K H v (ks ++ [k]) x
  | [], v, w, x, k, a, vs, j, h, e, h1, h2, h3 => by
    have h : w = v := h
    subst h
    exact ⟨a, vs, j, x, e, h1, h2, h3, rfl⟩
  | k' :: ks, v, w, x, k, a, vs, j, h, e, h1, h2, h3 => by
    obtain ⟨a', vs', j', x', e1, e2, e3, e4, h⟩ := h
    exact ⟨a', vs', j', x', e1, e2, e3, e4, h.snoc ks e h1 h2 h3⟩
theorem PathV.same {K : PySem.W.Frag} {H H' : Hp} (e : Same H H') : ∀ (ks : List D) {v w : V}, PathV K H v ks w → PathV K H' v ks w
  | [], v, w, h => h
  | k :: ks, v, w, h => by
    obtain ⟨a, vs, j, x, e1, e2, e3, e4, h⟩ := h
    exact ⟨a, vs, j, x, e1, e2.imp (fun z => e.seq z) fun z => sqt_same e z, e3, e4, h.same e ks⟩
theorem sq_uniq {K : PySem.W.Frag} {H : Hp} {a : Addr} {vs ws : List V} (kf : KF K H) (h : H a = some (.lst vs)) (q : SqL K H a ws ∨ SqT K H a ws) : ws = vs := by
  rcases q with ((q | ⟨o, q⟩) | ⟨o, its, r, q, _⟩) | ((q | ⟨o, q⟩) | ⟨o, its, r, q, _⟩)
  · rw [h] at q; cases q; rfl
  · rw [h] at q; cases q
  · rw [kf.1 _ _ q] at h; cases h
  · rw [h] at q; cases q
  · rw [h] at q; cases q
  · rw [kf.1 _ _ q] at h; cases h
theorem vals_uniq : ∀ {xs ys : List V} {us : List Value}, Vals xs us → Vals ys us → xs = ys
  | _, _, _, .nil, .nil => rfl
  | _, _, _, .cons r t, .cons r' t' => by
    have := r.abs.symm.trans r'.abs
    cases this
    rw [vals_uniq t t']
theorem stepD_len {α β : Type} {xs : List α} {ys : List β} (h : xs.length = ys.length) (k : D) : stepD xs k = stepD ys k := by
  cases k <;> simp only [stepD, h]
theorem tyAt_F (n : Nat) : tyAt n .F = some .F := by cases n <;> rfl
theorem tyAt_el {n : Nat} {t te : Ty} (h : tyAt (n + 1) t = some te) : tyAt n t.el = some te := by
  cases t with
  | S => cases h
  | F => rw [tyAt_F] at h; cases h; exact tyAt_F n
  | L t => exact h
theorem tyAt_ne {n : Nat} {t te : Ty} (h : tyAt n t = some te) : t ≠ .S := by
  rintro rfl
  cases n <;> cases h
theorem RwL.setAt {K : PySem.W.Frag} {H : Hp} {t : Ty} : ∀ {xs : List D} {vs : List V} {o s : List Addr} {j : Nat} {x : D}, RwL K H xs t vs o s → xs[j]? = some x →
    ∃ w oA ox oB sA sx sB vA vB, vs = vA ++ w :: vB ∧ vA.length = j ∧ vs[j]? = some w ∧ o = oA ++ (ox ++ oB) ∧ s = sA ++ (sx ++ sB) ∧ RwL K H (xs.take j) t vA oA sA ∧ Rw K H x t w ox sx ∧ RwL K H (xs.drop (j + 1)) t vB oB sB
  | d :: ds, vs, o, s, 0, x, h, e => by
    rw [rwl_cons] at h
    obtain ⟨v, vs', o1, s1, o2, s2, rfl, rfl, rfl, h1, h2⟩ := h
    cases e
    exact ⟨v, [], o1, o2, [], s1, s2, [], vs', rfl, rfl, rfl, rfl, rfl, rwl_nil.mpr ⟨rfl, rfl, rfl⟩, h1, h2⟩
  | d :: ds, vs, o, s, j + 1, x, h, e => by
    rw [rwl_cons] at h
    obtain ⟨v, vs', o1, s1, o2, s2, rfl, rfl, rfl, h1, h2⟩ := h
    obtain ⟨w, oA, ox, oB, sA, sx, sB, vA, vB, rfl, rfl, e1, rfl, rfl, k1, k2, k3⟩ := RwL.setAt h2 (show ds[j]? = some x from e)
    exact ⟨w, o1 ++ oA, ox, oB, s1 ++ sA, sx, sB, v :: vA, vB, rfl, rfl, e1, by simp, by simp, rwl_cons.mpr ⟨v, vA, o1, s1, oA, sA, rfl, rfl, rfl, h1, k1⟩, k2, k3⟩
theorem set_split {α : Type} {xs : List α} {j : Nat} {x y : α} (h : xs[j]? = some x) : xs.set j y = xs.take j ++ y :: xs.drop (j + 1) := by
  have hj : j < xs.length := (List.getElem?_eq_some_iff.mp h).1
  rw [List.set_eq_take_append_cons_drop, if_pos hj]
section
variable {K : PySem.W.Frag} {H : Hp}
/-- a write somewhere in a value: what is there, and what becomes of the value -/
structure ModR (K : PySem.W.Frag) (H : Hp) (f : List D → R (List D)) (d' : D) (t te : Ty) (v : V) (o s : List Addr) (a : Addr) (xs ys : List D) (vs : List V) (ol sl : List Addr) : Prop where
  f : f xs = .ok ys
  at_ : H a = some (.lst vs)
  mem : a ∈ o
  rw : RwL K H xs te vs ol sl
  hol : ∀ b ∈ ol, b ∈ o ∧ b ≠ a
  hsl : ∀ b ∈ sl, b ∈ s
  dis : ol.Nodup
  put : ∀ ws on sn, RwL K (upd H a (.lst ws)) ys te ws on sn → on.Nodup → (∀ b ∈ on, (b ∈ ol ∨ (b ∉ o ∧ b ∉ s)) ∧ b ∉ sn ∧ b ≠ a) → (∀ b ∈ sn, b ∉ o) →
    ∃ o' s', Rw K (upd H a (.lst ws)) d' t v o' s' ∧ o'.Nodup ∧ (∀ b ∈ o', b ∈ o ∨ b ∈ on) ∧ (∀ b ∈ s', b ∈ s ∨ b ∈ sn) ∧ (∀ b ∈ o', b ∉ s')
/-- one item of a list (or a tuple) -/
theorem mod_item {f : List D → R (List D)} {t te : Ty} {xs : List D} {vs : List V} {o s : List Addr} {j : Nat} {x y : D} {a : Addr} (h : RwL K H xs t vs o s) (hx : xs[j]? = some x) (no : o.Nodup) (ap : ∀ b ∈ o, b ∉ s)
    (ih : ∀ {w : V} {ox sx : List Addr}, vs[j]? = some w → Rw K H x t w ox sx → ox.Nodup → (∀ b ∈ ox, b ∉ sx) → ∃ xs' ys' vs' ol sl, ModR K H f y t te w ox sx a xs' ys' vs' ol sl) :
    ∃ xs' ys' vs' ol sl, f xs' = .ok ys' ∧ H a = some (.lst vs') ∧ a ∈ o ∧ RwL K H xs' te vs' ol sl ∧ (∀ b ∈ ol, b ∈ o ∧ b ≠ a) ∧ (∀ b ∈ sl, b ∈ s) ∧ ol.Nodup ∧
      ∀ ws on sn, RwL K (upd H a (.lst ws)) ys' te ws on sn → on.Nodup → (∀ b ∈ on, (b ∈ ol ∨ (b ∉ o ∧ b ∉ s)) ∧ b ∉ sn ∧ b ≠ a) → (∀ b ∈ sn, b ∉ o) →
        ∃ o' s', RwL K (upd H a (.lst ws)) (xs.set j y) t vs o' s' ∧ o'.Nodup ∧ (∀ b ∈ o', b ∈ o ∨ b ∈ on) ∧ (∀ b ∈ s', b ∈ s ∨ b ∈ sn) ∧ (∀ b ∈ o', b ∉ s') := by
  obtain ⟨w, oA, ox, oB, sA, sx, sB, vA, vB, rfl, hA, hw, rfl, rfl, r1, r2, r3⟩ := h.setAt hx
  have n1 := List.nodup_append.mp no
  have n2 := List.nodup_append.mp n1.2.1
  obtain ⟨xs', ys', vs', ol, sl, M⟩ := ih hw r2 n2.1 fun b hb hs => ap b (by simp [hb]) (by simp [hs])
  refine ⟨xs', ys', vs', ol, sl, M.f, M.at_, by simp [M.mem], M.rw, fun b hb => ⟨by simp [(M.hol b hb).1], (M.hol b hb).2⟩, fun b hb => by simp [M.hsl b hb], M.dis, fun ws on sn hr hno hon hsn => ?_⟩
  obtain ⟨o', s', q1, q2, q3, q4, q5⟩ := M.put ws on sn hr hno (fun b hb => ⟨(hon b hb).1.imp id fun z => ⟨fun y => z.1 (by simp [y]), fun y => z.2 (by simp [y])⟩, (hon b hb).2⟩) fun b hb hq => hsn b hb (by simp [hq])
  have mu : Mut (some (HO.lst vs')) := trivial
  have aA : a ∉ oA := fun z => n1.2.2 a z a (by simp [M.mem]) rfl
  have aB : a ∉ oB := fun z => n2.2.2 a M.mem a z rfl
  have aS : a ∉ sA ++ (sx ++ sB) := ap a (by simp [M.mem])
  have r1' := RwL.other (w := HO.lst ws) M.at_ mu aA (fun z => aS (by simp [z])) r1
  have r3' := RwL.other (w := HO.lst ws) M.at_ mu aB (fun z => aS (by simp [z])) r3
  have inx : ∀ b ∈ o', b ∈ ox ∨ (b ∈ on ∧ b ∉ oA ∧ b ∉ oB ∧ b ∉ sA ∧ b ∉ sB) := fun b hb => by
    rcases q3 b hb with z | z
    · exact .inl z
    · rcases (hon b z).1 with y | ⟨y1, y2⟩
      · exact .inl (M.hol b y).1
      · exact .inr ⟨z, fun k => y1 (by simp [k]), fun k => y1 (by simp [k]), fun k => y2 (by simp [k]), fun k => y2 (by simp [k])⟩
  refine ⟨oA ++ (o' ++ oB), sA ++ (s' ++ sB), ?_, ?_, fun b hb => ?_, fun b hb => ?_, fun b hb hs => ?_⟩
  · rw [set_split hx]
    exact r1'.app (rwl_cons.mpr ⟨w, vB, o', s', oB, sB, rfl, rfl, rfl, q1, r3'⟩)
  · refine List.nodup_append.mpr ⟨n1.1, List.nodup_append.mpr ⟨q2, n2.2.1, fun b hb c hc e => ?_⟩, fun b hb c hc e => ?_⟩
    · subst e
      rcases inx b hb with z | z
      · exact n2.2.2 b z b hc rfl
      · exact z.2.2.1 hc
    · subst e
      rcases List.mem_append.mp hc with hc | hc
      · rcases inx b hc with z | z
        · exact n1.2.2 b hb b (by simp [z]) rfl
        · exact z.2.1 hb
      · exact n1.2.2 b hb b (by simp [hc]) rfl
  · rcases List.mem_append.mp hb with hb | hb
    · exact .inl (by simp [hb])
    · rcases List.mem_append.mp hb with hb | hb
      · exact (q3 b hb).imp (fun z => by simp [z]) id
      · exact .inl (by simp [hb])
  · rcases List.mem_append.mp hb with hb | hb
    · exact .inl (by simp [hb])
    · rcases List.mem_append.mp hb with hb | hb
      · exact (q4 b hb).imp (fun z => by simp [z]) id
      · exact .inl (by simp [hb])
  · have sOut : ∀ b, b ∈ oA ∨ b ∈ oB → b ∉ s' := fun b hb hs => by
      have bo : b ∈ oA ++ (ox ++ oB) := by rcases hb with z | z <;> simp [z]
      rcases q4 b hs with z | z
      · exact ap b bo (by simp [z])
      · exact hsn b z bo
    rcases List.mem_append.mp hb with hb | hb
    · rcases List.mem_append.mp hs with hs | hs
      · exact ap b (by simp [hb]) (by simp [hs])
      · rcases List.mem_append.mp hs with hs | hs
        · exact sOut b (.inl hb) hs
        · exact ap b (by simp [hb]) (by simp [hs])
    · rcases List.mem_append.mp hb with hb | hb
      · rcases List.mem_append.mp hs with hs | hs
        · rcases inx b hb with z | z
          · exact ap b (by simp [z]) (by simp [hs])
          · exact z.2.2.2.1 hs
        · rcases List.mem_append.mp hs with hs | hs
          · exact q5 b hb hs
          · rcases inx b hb with z | z
            · exact ap b (by simp [z]) (by simp [hs])
            · exact z.2.2.2.2 hs
      · rcases List.mem_append.mp hs with hs | hs
        · exact ap b (by simp [hb]) (by simp [hs])
        · rcases List.mem_append.mp hs with hs | hs
          · exact sOut b (.inr hb) hs
          · exact ap b (by simp [hb]) (by simp [hs])
theorem R.ok_of {α β : Type} {r : R α} {f : α → R β} {b : β} (h : (r >>= f) = .ok b) : ∃ a, r = .ok a ∧ f a = .ok b := by
  cases r with
  | ok a => exact ⟨a, rfl, h⟩
  | ex x => cases h
  | no => cases h
theorem Rw.mod {tf : Bool} {f : List D → R (List D)} (kf : KF K H) : ∀ (ks : List D) {d d' : D} {t te : Ty} {v : V} {o s : List Addr} {a : Addr}, Rw K H d t v o s → o.Nodup → (∀ b ∈ o, b ∉ s) → tyAt ks.length t = some te → (tf = true → t = .F) →
    modG tf f ks d = .ok d' → PathV K H v ks (.ref a) → ∃ xs ys vs ol sl, ModR K H f d' t te v o s a xs ys vs ol sl
  | [], d, d', t, te, v, o, s, a, h, no, ap, ht, _, hm, hv => by
    cases d with
    | list xs =>
      obtain ⟨ys, hf, hm⟩ := R.ok_of (show (f xs >>= fun ys => R.ok (PyData.list ys)) = .ok d' from hm)
      cases hm
      rw [rw_lst] at h
      obtain ⟨a0, vs, o', s', rfl, hl, hr, n⟩ := h
      have hv : V.ref a = V.ref a0 := hv
      cases hv
      have el : t.el = te := by
        cases t with
        | S => cases ht
        | F => cases ht; rfl
        | L t => cases ht; rfl
      rw [el] at hr
      have key : H a = some (.lst vs) ∧ o = a :: o' ∧ s = s' := by
        cases t with
        | S => cases ht
        | F => exact ⟨hl, n.1, n.2⟩
        | L t => exact ⟨hl, n.1, n.2⟩
      obtain ⟨ha, rfl, rfl⟩ := key
      have n1 := List.nodup_cons.mp no
      refine ⟨xs, ys, vs, o', s, hf, ha, List.mem_cons_self, hr, fun b hb => ⟨List.mem_cons_of_mem _ hb, fun e => n1.1 (e ▸ hb)⟩, fun b hb => hb, n1.2, fun ws on sn k1 k2 k3 k4 => ?_⟩
      refine ⟨a :: on, sn, rw_lst.mpr ⟨a, ws, on, sn, rfl, ?_, by rw [el]; exact k1, ?_⟩, List.nodup_cons.mpr ⟨fun z => (k3 a z).2.2 rfl, k2⟩, fun b hb => ?_, fun b hb => .inr hb, fun b hb hs => ?_⟩
      · cases t with
        | S => cases ht
        | F => exact upd_same
        | L t => exact upd_same
      · cases t with
        | S => cases ht
        | F => exact ⟨rfl, rfl⟩
        | L t => exact ⟨rfl, rfl⟩
      · rcases List.mem_cons.mp hb with z | z
        · exact .inl (by rw [z]; exact List.mem_cons_self)
        · exact .inr z
      · rcases List.mem_cons.mp hb with z | z
        · exact k4 b hs (by rw [z]; exact List.mem_cons_self)
        · exact (k3 b z).2.1 hs
    | _ => cases hm
  | k :: ks, d, d', t, te, v, o, s, a, h, no, ap, ht, htf, hm, hv => by
    obtain ⟨a1, vs1, j1, w1, rfl, hq1, hj1, hw1, hv1⟩ := hv
    have ht' := tyAt_el (n := ks.length) ht
    cases d with
    | list xs =>
      rw [rw_lst] at h
      obtain ⟨a0, vs, o', s', e0, hl, hr, n⟩ := h
      cases e0
      have key : H a1 = some (.lst vs) ∧ o = a1 :: o' ∧ s = s' := by
        cases t with
        | S => exact absurd rfl (tyAt_ne ht)
        | F => exact ⟨hl, n.1, n.2⟩
        | L t => exact ⟨hl, n.1, n.2⟩
      obtain ⟨ha1, rfl, rfl⟩ := key
      have ev := sq_uniq kf ha1 hq1
      subst ev
      have hm : (match stepD xs k with
        | some j => match xs[j]? with
          | some x => modG tf f ks x >>= fun y => R.ok (PyData.list (xs.set j y))
          | none => .no
        | none => .no) = .ok d' := hm
      rw [stepD_len hr.length] at hj1
      rw [hj1] at hm
      dsimp only at hm
      cases qx : xs[j1]? with
      | none => rw [qx] at hm; cases hm
      | some x =>
        rw [qx] at hm
        obtain ⟨y, hy, hm⟩ := R.ok_of (show (modG tf f ks x >>= fun y => R.ok (PyData.list (xs.set j1 y))) = .ok d' from hm)
        cases hm
        have n1 := List.nodup_cons.mp no
        obtain ⟨xs', ys', vs', ol, sl, m1, m2, m3, m4, m5, m6, m7, m8⟩ := mod_item (f := f) (te := te) (y := y) (a := a) hr qx n1.2 (fun b hb => ap b (List.mem_cons_of_mem _ hb)) fun {w ox sx} hw r2 nx apx => by
          rw [hw1] at hw
          cases hw
          exact Rw.mod kf ks r2 nx apx ht' (fun e => by rw [htf e]; rfl) hy hv1
        refine ⟨xs', ys', vs', ol, sl, m1, m2, List.mem_cons_of_mem _ m3, m4, fun b hb => ⟨List.mem_cons_of_mem _ (m5 b hb).1, (m5 b hb).2⟩, m6, m7, fun ws on sn k1 k2 k3 k4 => ?_⟩
        obtain ⟨o2, s2, r, q2, q3, q4, q5⟩ := m8 ws on sn k1 k2 (fun b hb => ⟨(k3 b hb).1.imp id fun z => ⟨fun y => z.1 (List.mem_cons_of_mem _ y), z.2⟩, (k3 b hb).2⟩) fun b hb hq => k4 b hb (List.mem_cons_of_mem _ hq)
        have ne : a1 ≠ a := fun e => n1.1 (e ▸ m3)
        have a1n : a1 ∉ o2 := fun z => by
          rcases q3 a1 z with z | z
          · exact n1.1 z
          · rcases (k3 a1 z).1 with y | y
            · exact n1.1 (m5 a1 y).1
            · exact y.1 List.mem_cons_self
        refine ⟨a1 :: o2, s2, rw_lst.mpr ⟨a1, vs1, o2, s2, rfl, ?_, r, ?_⟩, List.nodup_cons.mpr ⟨a1n, q2⟩, fun b hb => ?_, q4, fun b hb hs => ?_⟩
        · cases t with
          | S => exact absurd rfl (tyAt_ne ht)
          | F => exact (upd_ne ne).trans ha1
          | L t => exact (upd_ne ne).trans ha1
        · cases t with
          | S => exact absurd rfl (tyAt_ne ht)
          | F => exact ⟨rfl, rfl⟩
          | L t => exact ⟨rfl, rfl⟩
        · rcases List.mem_cons.mp hb with z | z
          · exact .inl (by rw [z]; exact List.mem_cons_self)
          · exact (q3 b z).imp (fun y => List.mem_cons_of_mem _ y) id
        · rcases List.mem_cons.mp hb with z | z
          · subst z
            rcases q4 b hs with y | y
            · exact ap b List.mem_cons_self y
            · exact k4 b y List.mem_cons_self
          · exact q5 b z hs
    | tuple xs =>
      cases tf with
      | false => cases hm
      | true =>
        have e := htf rfl
        subst e
        have hm : (match stepD xs k with
          | some j => match xs[j]? with
            | some x => modG true f ks x >>= fun y => R.ok (PyData.tuple (xs.set j y))
            | none => .no
          | none => .no) = .ok d' := hm
        rw [rw_tup] at h
        obtain ⟨a0, vs, e0, hl, hr⟩ := h
        cases e0
        have ev : vs1 = vs := by
          have hl0 := hl
          rcases hl with (hl | ⟨o, hl⟩) | ⟨ob, its, rr, hl, hz⟩
          · rcases hq1 with ((q | ⟨o, q⟩) | ⟨o, its, r, q, _⟩) | ((q | ⟨o, q⟩) | ⟨o, its, r, q, _⟩)
            · rw [hl] at q; cases q
            · rw [hl] at q; cases q
            · rw [kf.1 _ _ q] at hl; cases hl
            · rw [hl] at q; cases q; rfl
            · rw [hl] at q; cases q
            · rw [kf.1 _ _ q] at hl; cases hl
          · rcases hq1 with ((q | ⟨o, q⟩) | ⟨o, its, r, q, _⟩) | ((q | ⟨o, q⟩) | ⟨o, its, r, q, _⟩)
            · rw [hl] at q; cases q
            · rw [hl] at q; cases q
            · rw [kf.1 _ _ q] at hl; cases hl
            · rw [hl] at q; cases q
            · rw [hl] at q; cases q; rfl
            · rw [kf.1 _ _ q] at hl; cases hl
          · rcases hq1 with ((q | ⟨o, q⟩) | ⟨ob2, its2, r, q, qc, _, q2, _⟩) | ((q | ⟨o, q⟩) | ⟨ob2, its2, r, q, _, q2, _, q3⟩)
            · rw [kf.1 _ _ hl] at q; cases q
            · rw [kf.1 _ _ hl] at q; cases q
            · rw [hl] at q; cases q
              exact absurd (qc.symm.trans hz.1) (by decide)
            · rw [kf.1 _ _ hl] at q; cases q
            · rw [kf.1 _ _ hl] at q; cases q
            · rw [hl] at q; cases q
              have e1 := hz.2.1
              rw [q2] at e1
              cases e1
              exact vals_uniq q3 hz.2.2.2
        subst ev
        rw [stepD_len hr.length] at hj1
        rw [hj1] at hm
        dsimp only at hm
        cases qx : xs[j1]? with
        | none => rw [qx] at hm; cases hm
        | some x =>
          rw [qx] at hm
          obtain ⟨y, hy, hm⟩ := R.ok_of (show (modG true f ks x >>= fun y => R.ok (PyData.tuple (xs.set j1 y))) = .ok d' from hm)
          cases hm
          obtain ⟨xs', ys', vs', ol, sl, m1, m2, m3, m4, m5, m6, m7, m8⟩ := mod_item (f := f) (te := te) (y := y) (a := a) hr qx no ap fun {w ox sx} hw r2 nx apx => by
            rw [hw1] at hw
            cases hw
            exact Rw.mod kf ks r2 nx apx ht' (fun e => rfl) hy hv1
          refine ⟨xs', ys', vs', ol, sl, m1, m2, m3, m4, m5, m6, m7, fun ws on sn k1 k2 k3 k4 => ?_⟩
          obtain ⟨o2, s2, r, q2, q3, q4, q5⟩ := m8 ws on sn k1 k2 k3 k4
          refine ⟨o2, s2, rw_tup.mpr ⟨a1, vs1, rfl, ?_, r⟩, q2, q3, q4, q5⟩
          have mu : ∀ xs, Rd H a1 (.tup xs) → Rd (upd H a (.lst ws)) a1 (.tup xs) := fun xs h => by
            have ne : a1 ≠ a := by
              rintro rfl
              rcases h with h | ⟨o, h⟩ <;> rw [m2] at h <;> cases h
            exact h.imp (fun z => (upd_ne ne).trans z) fun ⟨o, z⟩ => ⟨o, (upd_ne ne).trans z⟩
          exact hl.imp (mu _) id
    | _ => cases hm
end
end VS
set_option Elab.async false
set_option linter.all false
set_option maxRecDepth 100000
namespace VS
open PySem PySem.Spec L2
open PyProof.Rows hiding St
/-! ### paths -/
theorem sq_one {K : PySem.W.Frag} {H : Hp} {a : Addr} {vs ws : List V} (kf : KF K H) (h : SqL K H a vs ∨ SqT K H a vs) (q : SqL K H a ws ∨ SqT K H a ws) : vs = ws := by
  rcases h with ((h | ⟨o1, h⟩) | ⟨o1, i1, r1, h, hc, _, hd, _, hv⟩) | ((h | ⟨o1, h⟩) | ⟨o1, i1, r1, h, hc, hd, _, hv⟩) <;>
  rcases q with ((q | ⟨o, q⟩) | ⟨o, its, r, q, qc, _, qd, _, qv⟩) | ((q | ⟨o, q⟩) | ⟨o, its, r, q, qc, qd, _, qv⟩) <;>
  first
  | (rw [h] at q; cases q; done)
  | (rw [h] at q; cases q; rfl)
  | (rw [kf.1 _ _ q] at h; cases h; done)
  | (rw [kf.1 _ _ h] at q; cases q; done)
  | (rw [h] at q; cases q; exact absurd (hc.symm.trans qc) (by decide))
  | (rw [h] at q; cases q; rw [hd] at qd; cases qd; exact vals_uniq hv qv)
theorem PathV.uniq {K : PySem.W.Frag} {H : Hp} (kf : KF K H) : ∀ (ks : List D) {v w x : V}, PathV K H v ks w → PathV K H v ks x → w = x
  | [], v, w, x, h, h' => by
    have h : w = v := h
    have h' : x = v := h'
    rw [h, h']
  | k :: ks, v, w, x, h, h' => by
    obtain ⟨a, vs, j, y, rfl, e2, e3, e4, h⟩ := h
    obtain ⟨a', vs', j', y', e1', e2', e3', e4', h'⟩ := h'
    cases e1'
    have := sq_one kf e2 e2'
    subst this
    rw [e3] at e3'; cases e3'
    rw [e4] at e4'; cases e4'
    exact PathV.uniq kf ks h h'
theorem PathV.unsnoc {K : PySem.W.Frag} {H : Hp} : ∀ (ks : List D) {v x : V} {k : D}, PathV K H v (ks ++ [k]) x → ∃ w a vs j, PathV K H v ks w ∧ w = .ref a ∧ (SqL K H a vs ∨ SqT K H a vs) ∧ stepD vs k = some j ∧ vs[j]? = some x
  | [], v, x, k, h => by
    obtain ⟨a, vs, j, y, rfl, e2, e3, e4, h⟩ := h
    have h : x = y := h
    subst h
    exact ⟨_, a, vs, j, rfl, rfl, e2, e3, e4⟩
  | k' :: ks, v, x, k, h => by
    obtain ⟨a, vs, j, y, rfl, e2, e3, e4, h⟩ := h
    obtain ⟨w, b, ws, i, h1, h2, h3, h4, h5⟩ := PathV.unsnoc ks h
    exact ⟨w, b, ws, i, ⟨a, vs, j, y, rfl, e2, e3, e4, h1⟩, h2, h3, h4, h5⟩
theorem path_ex {K : PySem.W.Frag} {H : Hp} {tf : Bool} {f : List D → R (List D)} : ∀ (ks : List D) {d d' : D} {t : Ty} {v : V} {o s : List Addr}, Rw K H d t v o s → modG tf f ks d = .ok d' → ∃ a, PathV K H v ks (.ref a)
  | [], d, d', t, v, o, s, h, hm => by
    cases d with
    | list xs =>
      rw [rw_lst] at h
      obtain ⟨a, _, _, _, rfl, _⟩ := h
      exact ⟨a, rfl⟩
    | _ => cases hm
  | k :: ks, d, d', t, v, o, s, h, hm => by
    cases d with
    | list xs =>
      have hm : (match stepD xs k with
        | some j => match xs[j]? with
          | some x => modG tf f ks x >>= fun y => R.ok (PyData.list (xs.set j y))
          | none => .no
        | none => .no) = .ok d' := hm
      rw [rw_lst] at h
      obtain ⟨a0, vs, o', s', rfl, hl, hr, n⟩ := h
      cases hj : stepD xs k with
      | none => rw [hj] at hm; cases hm
      | some j =>
        rw [hj] at hm
        dsimp only at hm
        cases qx : xs[j]? with
        | none => rw [qx] at hm; cases hm
        | some x =>
          rw [qx] at hm
          obtain ⟨y, hy, _⟩ := R.ok_of (show (modG tf f ks x >>= fun y => R.ok (PyData.list (xs.set j y))) = .ok d' from hm)
          obtain ⟨w, o1, s1, e1, r1, _⟩ := hr.item qx
          obtain ⟨a, ha⟩ := path_ex ks r1 hy
          exact ⟨a, a0, vs, j, w, rfl, .inl hl.sq, by rw [stepD_len hr.length]; exact hj, e1, ha⟩
    | tuple xs =>
      cases tf with
      | false => cases hm
      | true =>
        have hm : (match stepD xs k with
          | some j => match xs[j]? with
            | some x => modG true f ks x >>= fun y => R.ok (PyData.tuple (xs.set j y))
            | none => .no
          | none => .no) = .ok d' := hm
        rw [rw_tup] at h
        obtain ⟨a0, vs, rfl, hl, hr⟩ := h
        cases hj : stepD xs k with
        | none => rw [hj] at hm; cases hm
        | some j =>
          rw [hj] at hm
          dsimp only at hm
          cases qx : xs[j]? with
          | none => rw [qx] at hm; cases hm
          | some x =>
            rw [qx] at hm
            obtain ⟨y, hy, _⟩ := R.ok_of (show (modG true f ks x >>= fun y => R.ok (PyData.tuple (xs.set j y))) = .ok d' from hm)
            obtain ⟨w, o1, s1, e1, r1, _⟩ := hr.item qx
            obtain ⟨a, ha⟩ := path_ex ks r1 hy
            exact ⟨a, a0, vs, j, w, rfl, .inr hl, by rw [stepD_len hr.length]; exact hj, e1, ha⟩
    | _ => cases hm
section
variable {C : Ctx} {S : Scp} {X : Cx} {H₀ H : Hp} {τ : Tys} {δ : Sl} {σ : St} {nd : List (List Addr × List Addr)}
theorem we_path : ∀ (p : E), isPth p = true → okE C p → ∀ {H : Hp} {v : V} (at_ : At C S X H₀ τ δ σ nd H) (po : Expr), ck C.nb p S false po = true → ptyOk p τ = true → σ[pthI p]? = some (some v) → ∀ {ks : List D} {Q : VK},
    pthD p δ = .ok ks → (∃ w, PathV X.K H v ks w) → (∀ w H', Same H H' → KF X.K H' → PathV X.K H' v ks w → Q w H') → WE X po σ H Q
  | .sl i, _, _, H, v, at_, po, hc, _, hv, ks, Q, hk, hx, h => by
    cases po with
    | Name x pos =>
      have hc : visC S i x = true := hc
      obtain ⟨g1, g2, g3, g4⟩ := vis_of at_.G hc
      cases hk
      exact WE.of (pe_var g1 g2 g3 g4) ⟨v, hv, h v H (Same.refl H) at_.sv.kf rfl⟩
    | _ => exact absurd hc (by simp [ck])
  | .ix p i, hp, hok, H, v, at_, po, hc, hty, hv, ks, Q, hk, hx, h => by
    cases po with
    | Subscript pa pi pos =>
      have hc1 : (plainX pi && ck C.nb p S false pa && ck C.nb i S false pi) = true := hc
      simp only [Bool.and_eq_true] at hc1
      obtain ⟨⟨hpl, hca⟩, hci⟩ := hc1
      have hty : (ptyOk p τ && (ty i τ).isSome) = true := hty
      rw [Bool.and_eq_true] at hty
      obtain ⟨Ti, eTi⟩ := Option.isSome_iff_exists.mp hty.2
      obtain ⟨ks0, h1, hk⟩ := R.ok_of (show (pthD p δ >>= fun ks => ev i δ >>= fun k => R.ok (ks ++ [k])) = .ok ks from hk)
      obtain ⟨k, h2, hk⟩ := R.ok_of hk
      cases hk
      obtain ⟨x, hx⟩ := hx
      obtain ⟨w0, a, vs, j, k1, rfl, k3, k4, k5⟩ := PathV.unsnoc ks0 hx
      refine WE.of (pe_ix ix_seq pe_w pe_w (plain_ix hpl)) (we_path p hp hok.1 at_ pa hca hty.1 hv h1 ⟨_, k1⟩ fun w H1 e1 kf1 hw => ?_)
      have ew := PathV.uniq kf1 ks0 hw (k1.same e1 ks0)
      subst ew
      refine (snd i hok.2).hE (at_.grow e1 kf1) pi hci Ti eTi _ ?_
      rw [h2]
      intro H2 e2 kf2 y vy
      obtain ⟨_, _, _, ry⟩ := vy.rw
      have sq2 : SqL X.K H2 a vs ∨ SqT X.K H2 a vs := k3.imp (fun z => (e1.trans e2).seq z) fun z => sqt_same (e1.trans e2) z
      have fin := h x H2 (e1.trans e2) kf2 (PathV.snoc ks0 (hw.same e2 ks0) rfl sq2 k4 k5)
      cases k with
      | int n =>
        rw [rw_int] at ry
        obtain ⟨rfl, _⟩ := ry
        have at2 : atI vs n = some x := atI_of k4 k5
        rcases sq2 with z | z
        · exact .inl ⟨a, vs, n, x, rfl, rfl, z, at2, fin⟩
        · exact .inr (.inl ⟨a, vs, n, x, rfl, rfl, z, at2, fin⟩)
      | _ => cases k4
    | _ => exact absurd hc (by simp [ck])
end
/-! ### types of writes -/
theorem wkP_at : ∀ (n : Nat) (t u : Ty), ∃ te, tyAt n (wkP n t u) = some te ∧ Ty.le u te = true
  | 0, t, u => by
    unfold wkP
    split
    · rename_i h; exact ⟨.F, rfl, by rw [h.2]; rfl⟩
    · exact ⟨_, rfl, (Ty.le_join _ _).2⟩
  | n + 1, t, u => by
    unfold wkP
    split
    · rename_i h; exact ⟨.F, tyAt_F _, by rw [h.2]; rfl⟩
    · obtain ⟨te, h1, h2⟩ := wkP_at n t.el u
      exact ⟨te, h1, h2⟩
theorem wkP_le : ∀ (n : Nat) (t u : Ty), (tyAt n t).isSome = true → Ty.le t (wkP n t u) = true
  | n, .S, u, h => by cases n <;> cases h
  | 0, .F, u, _ => by
    unfold wkP
    split
    · rfl
    · exact (Ty.le_join .F u).1
  | 0, .L t, u, _ => by
    unfold wkP
    split
    · rename_i h; cases h.1
    · exact (Ty.le_join t u).1
  | n + 1, .F, u, _ => by
    unfold wkP
    split
    · rfl
    · exact wkP_le n .F u (by rw [tyAt_F]; rfl)
  | n + 1, .L t, u, h => by
    unfold wkP
    split
    · rename_i h; cases h.1
    · exact wkP_le n t u h
section
variable {K : PySem.W.Frag} {H₀ H H1 : Hp} {A₀ : List Addr} {W : Keep} {τ τ' : Tys} {δ : Sl} {σ : St} {nd : List (List Addr × List Addr)}
/-- a slot forgotten -/
theorem SI.drop (h : SI K H₀ A₀ W τ δ σ nd H) (i : Nat) : SI K H₀ A₀ W (τ.set i none) δ σ (nd.set i ([], [])) H where
  kf := h.kf
  sm := h.sm
  ls := h.ls
  ln := by rw [List.length_set]; exact h.ln
  rep := fun j e t b h1 h2 => by
    by_cases hj : i = j
    · subst hj
      have hl : i < τ.length := by
        have := (List.getElem?_eq_some_iff.mp h2).1
        simpa using this
      rw [List.getElem?_set_self hl] at h2
      cases h2
    · rw [List.getElem?_set_ne hj] at h2
      obtain ⟨w, o, s', h3, h4, h5⟩ := h.rep j e t b h1 h2
      exact ⟨w, o, s', h3, by rw [List.getElem?_set_ne hj]; exact h4, h5⟩
  slot := fun j p h1 => by
    by_cases hj : i = j
    · subst hj
      have hl : i < nd.length := by
        have := (List.getElem?_eq_some_iff.mp h1).1
        simpa using this
      rw [List.getElem?_set_self hl] at h1
      cases h1
      exact ⟨by simp, by simp, by simp, by simp, by simp⟩
    · rw [List.getElem?_set_ne hj] at h1
      exact h.slot j p h1
  sep := fun j k p q h1 h2 ne b hb => by
    by_cases hj : i = j
    · subst hj
      have hl : i < nd.length := by
        have := (List.getElem?_eq_some_iff.mp h1).1
        simpa using this
      rw [List.getElem?_set_self hl] at h1
      cases h1
      exact nomatch hb
    · rw [List.getElem?_set_ne hj] at h1
      by_cases hk : i = k
      · subst hk
        have hl : i < nd.length := by
          have := (List.getElem?_eq_some_iff.mp h2).1
          simpa using this
        rw [List.getElem?_set_self hl] at h2
        cases h2
        exact ⟨by simp, by simp⟩
      · rw [List.getElem?_set_ne hk] at h2
        exact h.sep j k p q h1 h2 ne b hb
  pin := fun q hq => ⟨(h.pin q hq).1, fun j p h1 hb => by
    by_cases hj : i = j
    · subst hj
      have hl : i < nd.length := by
        have := (List.getElem?_eq_some_iff.mp h1).1
        simpa using this
      rw [List.getElem?_set_self hl] at h1
      cases h1
      exact nomatch hb
    · rw [List.getElem?_set_ne hj] at h1
      exact (h.pin q hq).2 j p h1 hb⟩
  J := h.J
theorem old_upd {a : Addr} {w : HO} {b : Addr} (h : Old K H b) (ne : b ≠ a) : Old K (upd H a w) b := fun n => h ⟨by have := n.1; rw [upd_ne ne] at this; exact this, n.2⟩
/-- a write into a node that no slot leans on -/
theorem SI.updx (ok : KeepOk W) (h : SI K H₀ A₀ W τ δ σ nd H) {a : Addr} {u w : HO} (hu : H a = some u) (mu : Mut (some u)) (na : New K H₀ a) (hx : ∀ (j : Nat) (p : List Addr × List Addr), nd[j]? = some p → a ∉ p.1 ∧ a ∉ p.2)
    (hp : ∀ q ∈ W.pn, q.1 ≠ a) (kf : KF K (upd H a w)) : SI K H₀ A₀ W τ δ σ nd (upd H a w) where
  kf := kf
  sm := fun b x e => by
    have ne : b ≠ a := fun z => by rw [z, na.1] at e; cases e
    rw [upd_ne ne]; exact h.sm b x e
  ls := h.ls
  ln := h.ln
  rep := fun j e t b h1 h2 => by
    obtain ⟨v, o, s, h3, h4, h5, h6⟩ := h.rep j e t b h1 h2
    have := hx j _ h4
    exact ⟨v, o, s, h3, h4, Rw.other hu mu this.1 this.2 h5, h6⟩
  slot := fun j p h1 => by
    have so := h.slot j p h1
    have := hx j p h1
    have ne : ∀ b, b ∈ p.1 ∨ b ∈ p.2 → b ≠ a := fun b hb e => by
      subst e
      exact hb.elim this.1 this.2
    exact ⟨so.nd, so.ap, fun b hb => ⟨(so.new b hb).1, let ⟨z, hz, m⟩ := (so.new b hb).2; ⟨z, (upd_ne (ne b (.inl hb))).trans hz, m⟩⟩, so.shr, fun b hb => old_upd (so.old b hb) (ne b hb)⟩
  sep := h.sep
  pin := fun q hq => ⟨old_upd (h.pin q hq).1 (hp q hq), (h.pin q hq).2⟩
  J := ok.upd _ _ _ ⟨u, hu, mu⟩ hp h.J
/-- a write into what slot i owns -/
theorem SI.write (ok : KeepOk W) (h : SI K H₀ A₀ W τ δ σ nd H) {i : Nat} {o s o' s' on sn : List Addr} {v : V} {a : Addr} {vs ws : List V} {d' : D} {t : Ty} {aa : Bool} (hi : nd[i]? = some (o, s)) (hv : σ[i]? = some (some v)) (ma : a ∈ o) (hu : H a = some (.lst vs))
    (hp : ∀ q ∈ W.pn, q.1 ≠ a) (kf : KF K (upd H a (.lst ws))) (r : Rw K (upd H a (.lst ws)) d' t v o' s') (no : o'.Nodup) (ap : ∀ b ∈ o', b ∉ s') (ho : ∀ b ∈ o', b ∈ o ∨ b ∈ on) (hs : ∀ b ∈ s', b ∈ s ∨ b ∈ sn ∨ b ∈ on)
    (A : ApartN K H₀ A₀ W nd on sn) (ha : aa = false → ∀ b ∈ s', New K H₀ b) : SI K H₀ A₀ W (τ.set i (some (t, aa))) (δ.set i (some d')) σ (nd.set i (o', s')) (upd H a (.lst ws)) := by
  have so := h.slot i _ hi
  have lo : ∀ (j : Nat) (p : List Addr × List Addr), (nd.set i ([], []))[j]? = some p → j ≠ i → nd[j]? = some p := fun j p hj ne => by
    rw [List.getElem?_set_ne (Ne.symm ne)] at hj; exact hj
  have n1 : ∀ (j : Nat) (p : List Addr × List Addr), (nd.set i ([], []))[j]? = some p → a ∉ p.1 ∧ a ∉ p.2 := fun j p hj => by
    by_cases e : j = i
    · subst e
      have hl : j < nd.length := (List.getElem?_eq_some_iff.mp hi).1
      rw [List.getElem?_set_self hl] at hj
      cases hj
      exact ⟨by simp, by simp⟩
    · exact h.sep i j _ p hi (lo j p hj e) (Ne.symm e) a ma
  have h1 := (h.drop i).updx ok hu trivial (so.new a ma).1 n1 hp kf
  have h2 := h1.put (i := i) (a := aa) r no (fun b hb => ⟨?_, ap b hb⟩) (fun b hb j p hj ne => ?_) (fun q hq hb => ?_) (fun b hb => ?_) (fun b hb j p hj ne => ?_) ha
  · rw [List.set_set, List.set_set] at h2
    have es : σ.set i (some v) = σ := by
      apply List.ext_getElem?
      intro k
      by_cases e : i = k
      · subst e
        rw [List.getElem?_set_self (List.getElem?_eq_some_iff.mp hv).1, hv]
      · rw [List.getElem?_set_ne e]
    rw [es] at h2
    exact h2
  · exact (ho b hb).elim (fun z => (so.new b z).1) (A.new b)
  · rcases ho b hb with z | z
    · exact h.sep i j _ p hi (lo j p hj ne) (Ne.symm ne) b z
    · exact A.out b z j p (lo j p hj ne)
  · rcases ho _ hb with z | z
    · exact (h.pin q hq).2 i _ hi z
    · exact (A.pin q hq z).elim
  · exact (hs b hb).elim (so.shr b) fun z => z.elim (A.shr b) fun z => .inl (A.new b z)
  · rcases hs b hb with z | z
    · intro y
      exact (h.sep j i p _ (lo j p hj ne) hi ne b y).2 z
    · exact z.elim (fun z => A.free b z j p (lo j p hj ne)) fun z => (A.out b z j p (lo j p hj ne)).1
end
end VS
set_option Elab.async false
set_option linter.all false
set_option maxRecDepth 100000
namespace VS
open PySem PySem.Spec L2
open PyProof.Rows hiding St
/-! ### the soundness of statements -/
structure GdS (C : Ctx) (S : Scp) (X : Cx) : Prop where
  G : Gd C S X
  own : PassesOwn (model X.prog X.w) X.A X.env X.xe
  kind : S.sc.kind = .function
def RtOk (K : PySem.W.Frag) (H₀ : Hp) (A₀ : List Addr) (H' : Hp) (t : Ty) (d : D) (v : V) : Prop := ∃ o s, Rw K H' d t v o s ∧ o.Nodup ∧ (∀ b ∈ o, New K H₀ b ∧ b ∉ s) ∧ ∀ b ∈ s, New K H₀ b ∨ b ∈ A₀
def FinS (X : Cx) (H₀ : Hp) (A₀ : List Addr) (W : Keep) (c : SC) (o : Out) (r : Option Tys) (D : Ends) : Prop := match o with
  | .nx δ' => ∀ τ1, r = some τ1 → ∀ σ' nd' H', SI X.K H₀ A₀ W τ1 δ' σ' nd' H' → D.nx σ' H'
  | .rt d => ∀ v H', Same H₀ H' → KF X.K H' → RtOk X.K H₀ A₀ H' c.rt d v → D.rt v H'
  | .ex x δ' => ∃ Wx, Takes X Wx ∧ ∀ σ' nd' H' cls dx, SI X.K H₀ A₀ W c.τx δ' σ' nd' H' → ExR X.K X.mg H' x cls dx → Wx cls dx σ' H'
  | .no => False
section
variable {C : Ctx} {S : Scp} {X : Cx} {H₀ H H1 : Hp} {A₀ : List Addr} {W : Keep} {c : SC} {τ τ' : Tys} {δ : Sl} {σ : St} {nd : List (List Addr × List Addr)} {r r' : Option Tys} {D : Ends} {o : Out}
theorem SI.at (G : GdS C S X) (h : SI X.K H₀ A₀ W τ δ σ nd H) : At C S X H₀ τ δ σ nd H := ⟨G.G, h.sv⟩
theorem FinS.lft {α : Type} {q : R α} {f : α → Out} (ok : KeepOk W) (si : SI X.K H₀ A₀ W τ δ σ nd H) (hx : leTys τ c.τx = true) (h : FinS X H₀ A₀ W c (lft δ q f) r D) : FinG X σ H q fun a _ => FinS X H₀ A₀ W c (f a) r D := by
  cases q with
  | ok a => exact fun _ _ _ => h
  | ex x =>
    obtain ⟨Wx, tk, hW⟩ := h
    refine ⟨Wx, tk, fun H' cls dx e kf ex => ?_⟩
    obtain ⟨nd', si', _⟩ := (si.grow ok e kf).weak hx
    exact hW σ nd' H' cls dx si' ex
  | no => exact h
theorem FinS.weak (h : FinS X H₀ A₀ W c o r D) (m : ∀ τ1, r' = some τ1 → ∃ τ2, r = some τ2 ∧ leTys τ1 τ2 = true) : FinS X H₀ A₀ W c o r' D := by
  cases o with
  | nx δ' =>
    intro τ1 e σ' nd' H' si
    obtain ⟨τ2, e2, l⟩ := m τ1 e
    obtain ⟨nd2, si2, _⟩ := si.weak l
    exact h τ2 e2 σ' nd2 H' si2
  | rt d => exact h
  | ex x δ' => exact h
  | no => exact h
theorem ifB_some {α : Type} {b : Bool} {x : Option α} {y : α} (h : ifB b x = some y) : b = true ∧ x = some y := by
  cases b with
  | true => exact ⟨rfl, h⟩
  | false => cases h
theorem joinTys_le : ∀ (τ τ' : Tys), leTys τ (joinTys τ τ') = true ∧ leTys τ' (joinTys τ τ') = true := by
  intro τ τ'
  have key : ∀ i, leTy1 τ[i]? (joinTys τ τ')[i]? = true ∧ leTy1 τ'[i]? (joinTys τ τ')[i]? = true := fun i => by
    unfold joinTys
    rw [List.getElem?_zipWith]
    rcases τ[i]? with _ | _ | ⟨t, a⟩ <;> rcases τ'[i]? with _ | _ | ⟨u, b⟩ <;> simp [leTy1, joinTy1, Ty.le_join] <;> cases a <;> cases b <;> simp
  unfold leTys
  exact ⟨List.all_eq_true.mpr fun i _ => (key i).1, List.all_eq_true.mpr fun i _ => (key i).2⟩
theorem WS.kf {st : Stmt} (h : WS X st { D with nx := fun σ' H' => KF X.K H' → D.nx σ' H' } σ H) : WS X st D σ H := fun pins s I => wpAny_mono (h pins s I) (fun f s' q => by
  cases f with
  | next => obtain ⟨σ', H', I', q⟩ := q; exact ⟨σ', H', I', q (kf_inv I')⟩
  | brk => exact q
  | cont => exact q
  | ret u => exact q) fun _ _ x => x
theorem WG.kf {p : Expr} {v : V} {Q : St → Hp → Prop} (h : WG X p v σ H fun σ' H' => KF X.K H' → Q σ' H') : WG X p v σ H Q := fun pins s u I r => wpAny_mono (h pins s u I r) (fun f s' ⟨σ', H', I', q⟩ => ⟨σ', H', I', q (kf_inv I')⟩) fun _ _ x => x
theorem noComp_sw {e : Expr} {t : Option Expr} {l : Nat} {env : Env} (h : noComp e = true) : swapsWith e t l env = pure false := by
  cases e <;> first | rfl | exact absurd (show false = true from h) (by decide)
theorem sw_name {x : Str} {p : Pos} {e : Expr} {env : Env} : swappedStores [.Name x p] e env = pure none := by cases e <;> rfl
theorem sw_sub {a b : Expr} {p : Pos} {e : Expr} {env : Env} : swappedStores [.Subscript a b p] e env = pure none := by cases e <;> rfl
theorem sw_tup {ts : List Expr} {k : Nat} {p : Pos} {e : Expr} {env : Env} (h : noSwap (.Tuple ts k p) e = true) : swappedStores [.Tuple ts k p] e env = pure none := by
  cases e with
  | Tuple vs k2 p2 =>
    have h : vs.all (foldedForSure 8) = true := h
    unfold swappedStores
    simp only [h]
    split
    · rfl
    · split
      · rfl
      · split
        · rfl
        · rfl
  | _ => rfl
/-- the slots of a tuple of targets -/
theorem tgs_put (G : Gd C S X) {t : Ty} {a : Bool} {Q : St → Hp → Prop} : ∀ (is : List Nat) (ps : List Expr) {δ δ' : Sl} {ds : List PyData} {vs : List V} {o s : List Addr} {τ : Tys} {σ : St} {nd : List (List Addr × List Addr)},
    tgsC S is ps = true → setTgs is ds δ = .ok δ' → RwL X.K H ds t vs o s → ApartN X.K H₀ A₀ W nd o s → (a = false → ∀ b ∈ s, New X.K H₀ b) → SI X.K H₀ A₀ W τ δ σ nd H →
    (∀ σ' nd', SI X.K H₀ A₀ W (is.foldl (fun τ i => τ.set i (some (t, a))) τ) δ' σ' nd' H → Q σ' H) → ∃ tt : TGs, PGs X ps tt ∧ tt vs σ H Q
  | [], [], δ, δ', ds, vs, o, s, τ, σ, nd, _, h2, h3, _, _, h6, h8 => by
    cases ds with
    | nil =>
      cases h2
      rw [rwl_nil] at h3
      exact ⟨_, pgs_nil, h3.1, h8 σ nd h6⟩
    | cons d ds => cases h2
  | [], p :: ps, _, _, _, _, _, _, _, _, _, h, _, _, _, _, _, _ => by cases h
  | i :: is, [], _, _, _, _, _, _, _, _, _, h, _, _, _, _, _, _ => by cases h
  | i :: is, p :: ps, δ, δ', ds, vs, o, s, τ, σ, nd, h1, h2, h3, A, ha, h6, h8 => by
    cases ds with
    | nil => cases h2
    | cons d ds =>
      cases p with
      | Name x pos =>
        have h1 : (stoC S i x && tgsC S is ps) = true := h1
        rw [Bool.and_eq_true] at h1
        rw [rwl_cons] at h3
        obtain ⟨v, vs', o1, s1, o2, s2, rfl, rfl, rfl, r1, r2⟩ := h3
        obtain ⟨g1, g2, g3⟩ := stoC_get G h1.1
        have h2 : setTgs is ds (δ.set i (some d)) = .ok δ' := h2
        have n := List.nodup_append.mp A.dis
        have A1 : ApartN X.K H₀ A₀ W nd o1 s1 := ⟨n.1, fun b hb hs => A.ap b (by simp [hb]) (by simp [hs]), fun b hb => A.new b (by simp [hb]), fun b hb => A.out b (by simp [hb]), fun q hq hb => A.pin q hq (by simp [hb]), fun b hb => A.shr b (by simp [hb]), fun b hb => A.free b (by simp [hb])⟩
        have si := h6.putA (i := i) (a := a) r1 A1 fun e b hb => ha e b (by simp [hb])
        have A2 : ApartN X.K H₀ A₀ W (nd.set i (o1, s1)) o2 s2 := by
          have look : ∀ (j : Nat) (p : List Addr × List Addr), (nd.set i (o1, s1))[j]? = some p → p = (o1, s1) ∨ nd[j]? = some p := fun j p hj => by
            by_cases e : i = j
            · subst e
              have hl : i < nd.length := by
                have := (List.getElem?_eq_some_iff.mp hj).1
                simpa using this
              rw [List.getElem?_set_self hl] at hj
              cases hj; exact .inl rfl
            · rw [List.getElem?_set_ne e] at hj; exact .inr hj
          refine ⟨n.2.1, fun b hb hs => A.ap b (by simp [hb]) (by simp [hs]), fun b hb => A.new b (by simp [hb]), fun b hb j p hj => ?_, fun q hq hb => A.pin q hq (by simp [hb]), fun b hb => A.shr b (by simp [hb]), fun b hb j p hj => ?_⟩
          · rcases look j p hj with z | z
            · subst z
              exact ⟨fun y => n.2.2 b y b hb rfl, fun y => A.ap b (by simp [hb]) (by simp [y])⟩
            · exact A.out b (by simp [hb]) j p z
          · rcases look j p hj with z | z
            · subst z
              exact fun y => A.ap b (by simp [y]) (by simp [hb])
            · exact A.free b (by simp [hb]) j p z
        obtain ⟨tt, pt, q⟩ := tgs_put G is ps h1.2 h2 r2 A2 (fun e b hb => ha e b (by simp [hb])) si h8
        exact ⟨_, pgs_cons (pg_name (i := i) (by rw [G.N]; exact G.nd) g1 g2 g3) pt, v, vs', rfl, q⟩
      | _ => cases h1
theorem tgs_len : ∀ (is : List Nat) (es : List Expr), tgsC S is es = true → es.length = is.length
  | [], [], _ => rfl
  | [], _ :: _, h => by cases h
  | _ :: _, [], h => by cases h
  | i :: is, e :: es, h => by
    cases e with
    | Name x pos =>
      have h : (stoC S i x && tgsC S is es) = true := h
      rw [Bool.and_eq_true] at h
      rw [List.length_cons, List.length_cons, tgs_len is es h.2]
    | _ => cases h
theorem tgs_names {env : Env} : ∀ (is : List Nat) (es : List Expr), tgsC S is es = true → assignEach es env = es.map fun e => (false, assign e env)
  | [], [], _ => rfl
  | [], _ :: _, h => by cases h
  | _ :: _, [], h => by cases h
  | i :: is, e :: es, h => by
    cases e with
    | Name x pos =>
      have h : (stoC S i x && tgsC S is es) = true := h
      rw [Bool.and_eq_true] at h
      show (false, assign (.Name x pos) env) :: assignEach es env = _
      rw [tgs_names is es h.2]; rfl
    | _ => cases h
theorem setTgs_len : ∀ (is : List Nat) (ds : List PyData) {δ δ' : Sl}, setTgs is ds δ = .ok δ' → ds.length = is.length
  | [], [], _, _, _ => rfl
  | [], _ :: _, _, _, h => by cases h
  | _ :: _, [], _, _, h => by cases h
  | i :: is, d :: ds, _, _, h => by rw [List.length_cons, List.length_cons, setTgs_len is ds h]
/-- a target takes a value -/
theorem wg_put (G : Gd C S X) {tg : Tg} {p : Expr} {t : Ty} {a : Bool} {d : PyData} {δ' : Sl} {v : V} {o s : List Addr} {Q : St → Hp → Prop} (hc : tgC S tg p = true) (hs : setTg tg d δ = .ok δ') (r : Rw X.K H d t v o s)
    (A : ApartN X.K H₀ A₀ W nd o s) (ha : a = false → ∀ b ∈ s, New X.K H₀ b) (si : SI X.K H₀ A₀ W τ δ σ nd H)
    (h : ∀ σ' nd', SI X.K H₀ A₀ W (setTy tg (some (match tg with | .one _ => t | .tup _ => t.tu, a)) τ) δ' σ' nd' H → Q σ' H) : WG X p v σ H Q := by
  cases tg with
  | one i =>
    cases p with
    | Name x pos =>
      have hc : stoC S i x = true := hc
      cases hs
      obtain ⟨g1, g2, g3⟩ := stoC_get G hc
      refine WG.of (pg_name (i := i) (by rw [G.N]; exact G.nd) g1 g2 g3) ?_
      exact h _ _ (si.putA r A ha)
    | _ => cases hc
  | tup is =>
    cases p with
    | Tuple es k pos =>
      have hc : tgsC S is es = true := hc
      cases d with
      | tuple ds =>
        rw [rw_tup] at r
        obtain ⟨q, vs, rfl, hq, hr⟩ := r
        have hs : setTgs is ds δ = .ok δ' := hs
        obtain ⟨tt, pt, hq2⟩ := tgs_put (Q := Q) G is es hc hs hr A ha si h
        have na := tgs_names (env := X.env) is es hc
        refine WG.of (pg_tup (n := es.length) G.calm pt (by rw [na, List.length_map]) ?_) ⟨q, vs, rfl, hq, by rw [hr.length, setTgs_len is ds hs, tgs_len is es hc], hq2⟩
        rw [na, List.findIdx?_eq_none_iff]
        intro x hx
        obtain ⟨e, _, rfl⟩ := List.mem_map.mp hx
        rfl
      | _ => cases hs
    | _ => cases hc
theorem tg_assign {tg : Tg} {p : Expr} (hc : tgC S tg p = true) : (assignEach [p] X.env).map (·.2) = [assign p X.env] := by
  cases tg with
  | one i => cases p with
    | Name x pos => rfl
    | _ => cases hc
  | tup is => cases p with
    | Tuple es k pos => rfl
    | _ => cases hc
theorem tg_swap {tg : Tg} {p e : Expr} {env : Env} (hc : tgC S tg p = true) (h : noSwap p e = true) : swappedStores [p] e env = pure none := by
  cases tg with
  | one i => cases p with
    | Name x pos => exact sw_name
    | _ => cases hc
  | tup is => cases p with
    | Tuple es k pos => exact sw_tup h
    | _ => cases hc
end
end VS
set_option Elab.async false
set_option linter.all false
set_option maxRecDepth 100000
namespace VS
open PySem PySem.Spec L2
open PyProof.Rows hiding St
section
variable {K : PySem.W.Frag} {H₀ H H1 Hb : Hp} {A₀ : List Addr} {W : Keep} {τ τ' : Tys} {δ : Sl} {σ : St} {nd : List (List Addr × List Addr)} {T : Tv}
theorem ApartN.less {o s p q : List Addr} (A : ApartN K H₀ A₀ W nd o s) (l : Less o s p q) : ApartN K H₀ A₀ W nd p q where
  dis := l.nodup A.dis
  ap := l.apart A.dis A.ap
  new := fun b hb => A.new b (l.omem hb)
  out := fun b hb => A.out b (l.omem hb)
  pin := fun q hq hb => A.pin q hq (l.omem hb)
  shr := fun b hb => (l.mem hb).elim (fun z => .inl (A.new b z)) (A.shr b)
  free := fun b hb j p hj => (l.mem hb).elim (fun z => (A.out b z j p hj).1) fun z => A.free b z j p hj
/-- an expression's value, the aliased slots demoted -/
theorem SI.val (ok : KeepOk W) (si : SI K H₀ A₀ W τ δ σ nd H) (e : Same H H1) (kf : KF K H1) {d : PyData} {v : V} (vl : Vl K H₀ H H1 nd T d v) :
    ∃ nd' o s, SI K H₀ A₀ W (demT τ T.B) δ σ nd' H1 ∧ Rw K H1 d T.t v o s ∧ ApartN K H₀ A₀ W nd' o s ∧ (T.a = false → ∀ b ∈ s, New K H₀ b) := by
  obtain ⟨o, s, r, no, ho, hs, ha⟩ := vl
  obtain ⟨nd', si', hd⟩ := (si.grow ok e kf).dem T.B
  exact ⟨nd', o, s, si', r, ApartN.of si.sm si no ho hs hd, ha⟩
theorem SI.valL (ok : KeepOk W) (si : SI K H₀ A₀ W τ δ σ nd H) (e : Same H H1) (kf : KF K H1) {d : List PyData} {v : List V} (vl : VlL K H₀ H H1 nd T d v) :
    ∃ nd' o s, SI K H₀ A₀ W (demT τ T.B) δ σ nd' H1 ∧ RwL K H1 d T.nm v o s ∧ ApartN K H₀ A₀ W nd' o s ∧ (T.a = false → ∀ b ∈ s, New K H₀ b) := by
  obtain ⟨o, s, r, no, ho, hs, ha⟩ := vl
  obtain ⟨nd', si', hd⟩ := (si.grow ok e kf).dem T.B
  exact ⟨nd', o, s, si', r, ApartN.of si.sm si no ho hs hd, ha⟩
/-- what a write needs, and what it leaves -/
theorem SI.mutate (ok : KeepOk W) (sib : SI K H₀ A₀ W τ δ σ nd Hb) (e : Same Hb H) (kf : KF K H) {on sn : List Addr} (no : on.Nodup) (ho : ∀ b ∈ on, New K Hb b ∧ b ∉ sn)
    (hs : ∀ b ∈ sn, New K Hb b ∨ ∃ i p, nd[i]? = some p ∧ (b ∈ p.2 ∨ (i ∈ T.B ∧ b ∈ p.1))) (ha : T.a = false → ∀ b ∈ sn, New K H₀ b)
    {tf : Bool} {i : Nat} {ks : List PyData} {f : List PyData → R (List PyData)} {d d' : PyData} {v : V} {a : Addr} (hm : muT tf i ks.length T τ = some τ') (hd : δ[i]? = some (some d)) (hv : σ[i]? = some (some v)) (hfz : ∀ q ∈ W.pn, i ∉ q.2)
    (hmod : modG tf f ks d = .ok d') (hp : PathV K H v ks (.ref a)) :
    ∃ te xs ys vs ol sl, Ty.le T.nm te = true ∧ f xs = .ok ys ∧ H a = some (.lst vs) ∧ RwL K H xs te vs ol sl ∧ a ∉ ol ∧ a ∉ sl ∧ a ∉ on ∧ a ∉ sn ∧ ol.Nodup ∧ (∀ b ∈ ol, b ∉ sl ∧ b ∉ on ∧ b ∉ sn) ∧ (∀ b ∈ on, b ∉ sl) ∧
      ∀ ws o2 s2, KF K (upd H a (.lst ws)) → RwL K (upd H a (.lst ws)) ys te ws o2 s2 → o2.Nodup → (∀ b ∈ o2, b ∈ ol ∨ b ∈ on) → (∀ b ∈ s2, b ∈ sl ∨ b ∈ sn ∨ b ∈ on) → (∀ b ∈ o2, b ∉ s2) →
        ∃ nd', SI K H₀ A₀ W τ' (δ.set i (some d')) σ nd' (upd H a (.lst ws)) := by
  unfold muT at hm
  split at hm
  · rename_i t aa et
    obtain ⟨hc, hm⟩ := ifB_some hm
    cases hm
    simp only [Bool.and_eq_true, decide_eq_true_eq, Bool.or_eq_true, Bool.not_eq_true'] at hc
    obtain ⟨⟨hat, hiB⟩, htf⟩ := hc
    obtain ⟨te, hte, hle⟩ := wkP_at ks.length t T.nm
    have hlt : i < (demT τ T.B).length := (List.getElem?_eq_some_iff.mp et).1
    -- the weakened types
    have hlt2 : leTys τ ((demT τ T.B).set i (some (wkP ks.length t T.nm, aa || T.a))) = true := by
      refine leTys_trans (demT_le T.B τ) ?_
      unfold leTys
      refine List.all_eq_true.mpr fun j _ => ?_
      by_cases ej : i = j
      · subst ej
        rw [List.getElem?_set_self hlt, et]
        simp only [leTy1, Bool.and_eq_true, Bool.or_eq_true, Bool.not_eq_true']
        refine ⟨wkP_le _ _ _ hat, ?_⟩
        cases aa <;> simp
      · rw [List.getElem?_set_ne ej]
        rcases (demT τ T.B)[j]? with _ | _ | ⟨t, a⟩ <;> simp [leTy1, Ty.le_refl]
    obtain ⟨nd2, si2, nl⟩ := (sib.grow ok e kf).weak hlt2
    have A : ApartN K H₀ A₀ W nd2 on sn := by
      refine ApartN.of sib.sm sib no ho hs fun j p' hj => ⟨nl.sub j p' hj, fun hb => ?_⟩
      have ne : i ≠ j := fun z => hiB (z ▸ hb)
      by_cases c : ∃ x, (demT τ T.B)[j]? = some (some x)
      · obtain ⟨⟨u, b⟩, ex⟩ := c
        have := demT_S T.B τ j hb u b ex
        subst this
        exact nl.shr j p' b hj (by rw [List.getElem?_set_ne ne]; exact ex)
      · rw [nl.non j p' hj fun x ex => c ⟨x, by rw [List.getElem?_set_ne ne] at ex; exact ex⟩]
    obtain ⟨v', o, s, hv', hnd, hrw, hfl⟩ := si2.rep i d _ _ hd (List.getElem?_set_self hlt)
    rw [hv] at hv'
    cases hv'
    have so := si2.slot i _ hnd
    obtain ⟨xs, ys, vs, ol, sl, M⟩ := Rw.mod kf ks hrw so.nd so.ap hte (fun z => by
      rcases htf with y | ⟨y1, y2⟩
      · rw [y] at z; cases z
      · rw [y1, y2]
        have : ∀ n, wkP n .F .F = .F := fun n => by cases n <;> rfl
        exact this _) hmod hp
    have oOut : ∀ b ∈ o, b ∉ on ∧ b ∉ sn := fun b hb => ⟨fun z => (A.out b z i _ hnd).1 hb, fun z => A.free b z i _ hnd hb⟩
    refine ⟨te, xs, ys, vs, ol, sl, hle, M.f, M.at_, M.rw, fun z => (M.hol a z).2 rfl, fun z => so.ap a M.mem (M.hsl a z), (oOut a M.mem).1, (oOut a M.mem).2, M.dis, fun b hb => ⟨fun z => so.ap b (M.hol b hb).1 (M.hsl b z), oOut b (M.hol b hb).1⟩, fun b hb z => (A.out b hb i _ hnd).2 (M.hsl b z), fun ws o2 s2 kf3 h1 h2 h3 h4 h5 => ?_⟩
    have c1 : ∀ b ∈ o2, b ∈ ol ∨ (b ∉ o ∧ b ∉ s) := fun b hb => by
      rcases h3 b hb with z | z
      · exact .inl z
      · exact .inr ⟨fun y => (oOut b y).1 z, fun y => (A.out b z i _ hnd).2 y⟩
    have c2 : ∀ b ∈ o2, b ≠ a := by
      intro b hb e
      subst e
      rcases h3 b hb with z | z
      · exact (M.hol b z).2 rfl
      · exact (oOut b M.mem).1 z
    have c3 : ∀ b ∈ s2, b ∉ o := by
      intro b hb hbo
      rcases h4 b hb with y | y | y
      · exact so.ap b hbo (M.hsl b y)
      · exact (oOut b hbo).2 y
      · exact (oOut b hbo).1 y
    obtain ⟨o', s', r, q2, q3, q4, q5⟩ := M.put ws o2 s2 h1 h2 (fun b hb => ⟨c1 b hb, h5 b hb, c2 b hb⟩) c3
    have := si2.write ok (t := wkP ks.length t T.nm) (aa := aa || T.a) (on := on) (sn := sn) hnd hv M.mem M.at_ (fun q hq z => hfz q hq ((si2.pin q hq).2 i _ hnd (z ▸ M.mem))) kf3 r q2 q5 ?_ ?_ A ?_
    · rw [List.set_set] at this
      exact ⟨_, this⟩
    · exact fun b hb => (q3 b hb).elim .inl fun z => (h3 b z).imp (fun y => (M.hol b y).1) id
    · intro b hb
      rcases q4 b hb with z | z
      · exact .inl z
      · rcases h4 b z with y | y | y
        · exact .inl (M.hsl b y)
        · exact .inr (.inl y)
        · exact .inr (.inr y)
    · intro hf b hb
      have hf2 : aa = false ∧ T.a = false := by cases aa <;> simp_all
      rcases q4 b hb with z | z
      · exact hfl hf b z
      · rcases h4 b z with y | y | y
        · exact hfl hf b (M.hsl b y)
        · exact ha hf2.2 b y
        · exact A.new b y
  · cases hm
end
end VS
set_option Elab.async false
set_option linter.all false
set_option maxRecDepth 100000
namespace VS
open PySem PySem.Spec L2
open PyProof.Rows hiding St
def okS (C : Ctx) : S → Prop
  | .nil => True
  | .seq a b => okS C a ∧ okS C b
  | .asg _ e => okE C e
  | .par _ _ es => okE C es
  | .mu _ _ p es => okE C p ∧ okE C es
  | .setI _ p i e => okE C p ∧ okE C i ∧ okE C e
  | .ext _ p e => okE C p ∧ okE C e
  | .popL _ _ _ => True
  | .apo _ _ e => okE C e
  | .ret e => okE C e
  | .retS _ => True
  | .ife c a b => okE C c ∧ okS C a ∧ okS C b
  | .forE _ it _ _ b => okE C it ∧ okS C b
  | .whi _ _ c b => okE C c ∧ okS C b
  | .drop e => okE C e
def Snd1 (C : Ctx) (s : S) : Prop := ∀ {S X H₀ A₀ W fz c τ δ σ nd H}, GdS C S X → KeepOk W → (∀ q ∈ W.pn, ∀ i ∈ q.2, i ∈ fz) → SI X.K H₀ A₀ W τ δ σ nd H → ∀ st, cs1 C.nb s S st = true → ∀ r, sty c s fz τ = some r → ∀ D, FinS X H₀ A₀ W c (sev s δ) r D → WS X st D σ H
def SndL (C : Ctx) (s : S) : Prop := ∀ {S X H₀ A₀ W fz c τ δ σ nd H}, GdS C S X → KeepOk W → (∀ q ∈ W.pn, ∀ i ∈ q.2, i ∈ fz) → SI X.K H₀ A₀ W τ δ σ nd H → ∀ st, csk C.nb s S st = true → ∀ r, sty c s fz τ = some r → ∀ D, FinS X H₀ A₀ W c (sev s δ) r D → WSs X st D σ H
structure SndS (C : Ctx) (s : S) : Prop where
  one : Snd1 C s
  all : SndL C s
def asgT (tg : Tg) (T : Tv) (τ : Tys) : Tys := match tg with
  | .one i => (demT τ T.B).set i (some (T.t, T.a))
  | .tup is => setTy (.tup is) (some (if T.nm = .F then (.F, false) else (.S, T.a))) (demT τ T.B)
section
variable {C : Ctx}
theorem SndS.of {s : S} (h : Snd1 C s) (n : ∀ S st, csk C.nb s S st = false) : SndS C s := ⟨h, fun _ _ _ _ st hc => by rw [n] at hc; cases hc⟩
theorem snds_nil : SndS C .nil where
  one := fun _ _ _ _ st hc => by cases st <;> exact absurd hc (by simp [cs1])
  all := fun {S X H₀ A₀ W fz c τ δ σ nd H} G ok hfz si st hc r hr D h => by
    cases st with
    | nil =>
      cases hr
      have h : ∀ τ1, some τ = some τ1 → ∀ σ' nd' H', SI X.K H₀ A₀ W τ1 δ σ' nd' H' → D.nx σ' H' := h
      exact WSs.of pss_nil (h τ rfl σ nd H si)
    | cons _ _ => exact absurd hc (by simp [csk])
theorem snds_seq {a b : S} (iha : SndS C a) (ihb : SndS C b) : SndS C (.seq a b) where
  one := fun _ _ _ _ st hc => by cases st <;> exact absurd hc (by simp [cs1])
  all := fun {S X H₀ A₀ W fz c τ δ σ nd H} G ok hfz si st hc r hr D h => by
    cases st with
    | nil => exact absurd hc (by simp [csk])
    | cons s1 rest =>
      have hc : (cs1 C.nb a S s1 && csk C.nb b S rest) = true := hc
      rw [Bool.and_eq_true] at hc
      have hr : ((sty c a fz τ).bind fun r => match r with
        | some τ' => sty c b fz τ'
        | none => some none) = some r := hr
      obtain ⟨ra, ea, hr⟩ := Option.bind_eq_some_iff.mp hr
      refine WSs.of (pss_cons ps_w pss_w) ?_
      refine iha.one G ok hfz si s1 hc.1 ra ea { D with nx := WSs X rest D } ?_
      have h : FinS X H₀ A₀ W c ((sev a δ).thn (sev b)) r D := h
      cases q : sev a δ with
      | nx δ' =>
        rw [q] at h
        intro τ1 e1 σ' nd' H' si'
        subst e1
        exact ihb.all G ok hfz si' rest hc.2 r hr D h
      | rt d => rw [q] at h; exact h
      | ex x δ' => rw [q] at h; exact h
      | no => rw [q] at h; exact h
theorem noLc_sw {S : Scp} {tg e : Expr} {l : Nat} {env : Env} (hs : env.scope = S.sc) (h : noLc S tg e = true) : swapsWith e (some tg) l env = pure false := by
  cases tg with
  | Name x p =>
    have h : (noComp e || decide (S.sc.names.lookup x = some .cell)) = true := h
    rw [Bool.or_eq_true] at h
    rcases h with h | h
    · exact noComp_sw h
    · have k : env.kindOf x = some .cell := by
        show env.scope.names.lookup x = _
        rw [hs]
        exact of_decide_eq_true h
      cases e <;> first
        | rfl
        | (unfold swapsWith
           simp only [k]
           rw [show ((some NameKind.cell) == some NameKind.local) = false from rfl, Bool.and_false, Bool.false_and, Bool.false_and])
  | _ => exact noComp_sw h
theorem snds_asg {tg : Tg} {e : E} (hok : okE C e) : SndS C (.asg tg e) := by
  have ih := snd e hok
  refine SndS.of (fun {S X H₀ A₀ W fz c τ δ σ nd H} G ok hfz si st hc r hr D h => ?_) (fun _ st => by cases st <;> rfl)
  cases st with
  | Assign tgs pe pos =>
    rcases tgs with _ | ⟨ptg, _ | ⟨_, _⟩⟩ <;> try (exfalso; revert hc; simp [cs1]; done)
    have hc1 : (tgC S tg ptg && ck C.nb e S false pe && (noLc S ptg pe || (isComp e && lcOk S pos.line ptg pe)) && noSwap ptg pe) = true := hc
    simp only [Bool.and_eq_true, Bool.or_eq_true] at hc1
    obtain ⟨⟨⟨hct, hce⟩, hcomp⟩, hns⟩ := hc1
    have hsty : ∃ T, leTys τ c.τx = true ∧ ty e τ = some T ∧ r = some (asgT tg T τ) := by
      cases tg with
      | one i =>
        obtain ⟨h1, h2⟩ := ifB_some (show ifB (leTys τ c.τx) ((ty e τ).bind fun T => some (some ((demT τ T.B).set i (some (T.t, T.a))))) = some r from hr)
        obtain ⟨T, e1, h3⟩ := Option.bind_eq_some_iff.mp h2
        exact ⟨T, h1, e1, (Option.some.inj h3).symm⟩
      | tup is =>
        obtain ⟨h1, h2⟩ := ifB_some (show ifB (leTys τ c.τx) ((ty e τ).bind fun T => some (some (setTy (.tup is) (some (if T.nm = .F then (.F, false) else (.S, T.a))) (demT τ T.B)))) = some r from hr)
        obtain ⟨T, e1, h3⟩ := Option.bind_eq_some_iff.mp h2
        exact ⟨T, h1, e1, (Option.some.inj h3).symm⟩
    obtain ⟨T, hx, eT, rfl⟩ := hsty
    -- the store
    have store : ∀ (d : PyData) (v : V) (H' : Hp), Same H H' → KF X.K H' → Vl X.K H₀ H H' nd T d v → FinS X H₀ A₀ W c (lft δ (setTg tg d δ) .nx) (some (asgT tg T τ)) D → WG X ptg v σ H' D.nx := by
      intro d v H' e1 kf1 vl hf
      obtain ⟨nd', o, s, si', rv, A, ha⟩ := si.val ok e1 kf1 vl
      cases qs : setTg tg d δ with
      | ok δ' =>
        rw [qs] at hf
        cases tg with
        | one i => exact wg_put G.G hct qs rv A ha si' fun σ' nd2 si2 => hf _ rfl σ' nd2 H' si2
        | tup is =>
          by_cases cF : T.nm = .F
          · unfold asgT at hf; rw [show (if T.nm = .F then ((.F, false) : Ty × Bool) else (.S, T.a)) = (.F, false) from if_pos cF] at hf
            rw [Tv.nm_tu cF] at rv
            have es := Rw.f_s _ rv
            subst es
            exact wg_put (a := false) G.G hct qs rv A (fun _ => by simp) si' fun σ' nd2 si2 => hf _ rfl σ' nd2 H' si2
          · unfold asgT at hf; rw [show (if T.nm = .F then ((.F, false) : Ty × Bool) else (.S, T.a)) = (.S, T.a) from if_neg cF] at hf
            obtain ⟨p, q, rv2, l⟩ := Rw.less d (Ty.le_S T.t) rv
            exact wg_put G.G hct qs rv2 (A.less l) (fun e b hb => (l.mem hb).elim (fun z => A.new b z) (ha e b)) si' fun σ' nd2 si2 => hf _ rfl σ' nd2 H' si2
      | ex x =>
        cases tg with
        | one i => cases qs
        | tup is =>
          exfalso
          cases d with
          | tuple ds =>
            have key : ∀ (is : List Nat) (ds : List PyData) (δ : Sl), setTgs is ds δ ≠ .ex x := by
              intro is
              induction is with
              | nil => intro ds δ; cases ds <;> exact nofun
              | cons i is ih => intro ds δ; cases ds with
                | nil => exact nofun
                | cons d ds => exact ih ds _
            exact key is ds δ qs
          | _ => cases qs
      | no => rw [qs] at hf; exact False.elim hf
    have h0 := FinS.lft (τ := τ) ok si hx (show FinS X H₀ A₀ W c (lft δ (ev e δ) fun d => lft δ (setTg tg d δ) .nx) _ D from h)
    rcases hcomp with hcomp | ⟨hc1, hlc⟩
    · refine WS.of (ps_asg pe_w pg_w (show swapsWithSole [ptg] pe pos.line X.env = pure false from noLc_sw G.G.sc hcomp) (tg_swap hct hns) (tg_assign hct)) ?_
      refine ih.hE (si.at G) pe hce T eT _ ?_
      cases qe : ev e δ with
      | ok d =>
        rw [qe] at h0
        exact fun H' e1 kf1 v vl => store d v H' e1 kf1 vl (h0 H' e1 kf1)
      | ex x => rw [qe] at h0; exact h0
      | no => rw [qe] at h0; exact h0
    · -- a comprehension stored
      cases e with
      | comp own tg1 it cnd elt =>
        cases ptg with
        | Name x px =>
          cases tg with
          | tup is => cases hct
          | one i =>
            cases pe with
            | ListComp pe gs scope pcs =>
              rcases gs with _ | ⟨⟨ptg, pit, pifs, n⟩, _ | ⟨_, _⟩⟩ <;> try (exfalso; revert hce; simp [ck]; done)
              rcases n with (_ | n) | n <;> try (exact absurd hce (by intro z; cases z))
              have hce1 : (blkC S.N S.sc scope own && plainX pit && ck C.nb it S true pit && tgC (S.blk scope) tg1 ptg && tgIn (own.map (·.2)) tg1 && ckc C.nb cnd (S.blk scope) pifs && ck C.nb elt (S.blk scope) false pe) = true := hce
              simp only [Bool.and_eq_true] at hce1
              obtain ⟨⟨⟨⟨⟨⟨h1, h2⟩, h3⟩, h4⟩, h5⟩, h6⟩, h7⟩ := hce1
              have hlc1 : (decide (S.sc.names.lookup x = some .local) && (px.line == pcs.line) && !(scope.names.any fun (n, k) => n == x && (k == .local || k == .cell))) = true := hlc
              simp only [Bool.and_eq_true, decide_eq_true_eq, Bool.not_eq_true'] at hlc1
              obtain ⟨⟨l1, l2⟩, l3⟩ := hlc1
              have eT : ((ty it τ).bind fun Ti => (tyc cnd (setTy tg1 (some (.S, Ti.a)) (wipeT τ (own.map (·.2))))).bind fun _ =>
                    (ty elt (setTy tg1 (some (.S, Ti.a)) (wipeT τ (own.map (·.2))))).bind fun U => some (compT Ti U)) = some T := eT
              obtain ⟨Ti, e1, eT⟩ := Option.bind_eq_some_iff.mp eT
              obtain ⟨⟨⟩, e2, eT⟩ := Option.bind_eq_some_iff.mp eT
              obtain ⟨U, e3, eT⟩ := Option.bind_eq_some_iff.mp eT
              cases eT
              have hct1 : stoC S i x = true := hct
              obtain ⟨g1, g2, g3⟩ := stoC_get G.G hct1
              refine WS.kf (WS.of (ps_setLc (i := i) (own := own) G.G.calm (by rw [G.G.N]; exact G.G.nd) g1 (by rw [G.G.sc]; exact l1) (sw_true (by rw [G.G.sc]; exact G.kind) (by rw [G.G.sc]; exact l1) l2 l3) pi_w (blkOk_by (by rw [G.G.N, G.G.sc]; exact h1)) gu_w qu_w eu_w (plain_folded h2)) ?_)
              refine comp_core (Q := fun v H' => D.nx (σ.set i (some v)) H') (snd it hok.1) (snd cnd hok.2.1) (snd elt hok.2.2) (si.at G) h3 h4 h5 h6 h7 e1 e2 e3 ?_
              have h0 : FinG X σ H ((ev it δ >>= iterD) >>= fun xs => nox (compL (compF tg1 cnd elt own δ) xs) >>= fun ys => .ok (PyData.list ys)) (fun d _ => FinS X H₀ A₀ W c (lft δ (setTg (.one i) d δ) .nx) (some (asgT (.one i) (compT Ti U) τ)) D) := h0
              refine h0.imp fun d H' e1 kf1 hf v vl => ?_
              obtain ⟨nd', o, s, si', rv, A, ha⟩ := si.val ok e1 kf1 vl
              exact hf _ rfl _ _ H' (si'.putA rv A ha)
            | _ => cases hlc
        | _ => cases hlc
      | _ => cases hc1
  | _ => exact absurd hc (by simp [cs1])
theorem snds_ret {e : E} (ih : Snd C e) : SndS C (.ret e) := by
  refine SndS.of (fun {S X H₀ A₀ W fz c τ δ σ nd H} G ok hfz si st hc r hr D h => ?_) (fun _ st => by cases st <;> rfl)
  cases st with
  | Return pe pos =>
    cases pe with
    | none => exact absurd hc (by simp [cs1])
    | some pe =>
      have hce : ck C.nb e S false pe = true := hc
      obtain ⟨hx, hr⟩ := ifB_some (show ifB (leTys τ c.τx) ((ty e τ).bind fun T => ifB (Ty.le T.t c.rt) (some none)) = some r from hr)
      obtain ⟨T, eT, hr⟩ := Option.bind_eq_some_iff.mp hr
      obtain ⟨hle, hr⟩ := ifB_some hr
      cases hr
      have h0 := FinS.lft (τ := τ) ok si hx (show FinS X H₀ A₀ W c (lft δ (ev e δ) .rt) _ D from h)
      refine WS.of (ps_ret pe_w) (ih.hE (si.at G) pe hce T eT _ (h0.imp fun d H' e1 kf1 hf v vl => ?_))
      have hf : ∀ v H', Same H₀ H' → KF X.K H' → RtOk X.K H₀ A₀ H' c.rt d v → D.rt v H' := hf
      obtain ⟨nd', o, s, si', rv, A, ha⟩ := si.val ok e1 kf1 vl
      obtain ⟨p, q, rv2, l⟩ := Rw.less d hle rv
      have A2 := A.less l
      exact hf v H' (si.sm.trans e1) kf1 ⟨p, q, rv2, A2.dis, fun b hb => ⟨A2.new b hb, A2.ap b hb⟩, A2.shr⟩
  | _ => exact absurd hc (by simp [cs1])
theorem snds_retS {i : Nat} : SndS C (.retS i) := by
  refine SndS.of (fun {S X H₀ A₀ W fz c τ δ σ nd H} G ok hfz si st hc r hr D h => ?_) (fun _ st => by cases st <;> rfl)
  cases st with
  | Return pe pos =>
    cases pe with
    | none => exact absurd hc (by simp [cs1])
    | some pe =>
      cases pe with
      | Name x px =>
        have hc : visC S i x = true := hc
        obtain ⟨g1, g2, g3, g4⟩ := vis_of G.G hc
        have hr : (match τ[i]? with
          | some (some (t, _)) => ifB (Ty.le t c.rt) (some none)
          | _ => none) = some r := hr
        split at hr
        · rename_i t a et
          obtain ⟨hle, hr⟩ := ifB_some hr
          have h : FinS X H₀ A₀ W c (lft δ (slotD δ i) .rt) r D := h
          unfold slotD at h
          split at h
          · rename_i d hd
            have hf : ∀ v H', Same H₀ H' → KF X.K H' → RtOk X.K H₀ A₀ H' c.rt d v → D.rt v H' := h
            obtain ⟨v, o, s, e1, e2, rv, ha⟩ := si.rep i d t a hd et
            obtain ⟨p, q, rv2, l⟩ := Rw.less d hle rv
            have so := si.slot i _ e2
            refine WS.of (ps_ret (pe_var g1 g2 g3 g4)) ⟨v, e1, hf v H si.sm si.kf ⟨p, q, rv2, l.nodup so.nd, fun b hb => ⟨(so.new b (l.omem hb)).1, l.apart so.nd so.ap b hb⟩, fun b hb => ?_⟩⟩
            exact (l.mem hb).elim (fun z => .inl (so.new b z).1) (so.shr b)
          · exact False.elim h
        · cases hr
      | _ => exact absurd hc (by simp [cs1])
  | _ => exact absurd hc (by simp [cs1])
theorem joinO_l {r1 r2 : Option Tys} : ∀ τ1, r1 = some τ1 → ∃ τ2, joinO r1 r2 = some τ2 ∧ leTys τ1 τ2 = true := by
  rintro τ1 rfl
  cases r2 with
  | none => exact ⟨τ1, rfl, leTys_refl _⟩
  | some τ2 => exact ⟨_, rfl, (joinTys_le τ1 τ2).1⟩
theorem joinO_r {r1 r2 : Option Tys} : ∀ τ1, r2 = some τ1 → ∃ τ2, joinO r1 r2 = some τ2 ∧ leTys τ1 τ2 = true := by
  rintro τ1 rfl
  cases r1 with
  | none => exact ⟨τ1, rfl, leTys_refl _⟩
  | some τ2 => exact ⟨_, rfl, (joinTys_le τ2 τ1).2⟩
theorem snds_ife {e : E} {a b : S} (ih : Snd C e) (iha : SndS C a) (ihb : SndS C b) : SndS C (.ife e a b) := by
  refine SndS.of (fun {S X H₀ A₀ W fz c τ δ σ nd H} G ok hfz si st hc r hr D h => ?_) (fun _ st => by cases st <;> rfl)
  cases st with
  | If pc pa pb pos =>
    have hc1 : (ck C.nb e S false pc && csk C.nb a S pa && csk C.nb b S pb) = true := hc
    simp only [Bool.and_eq_true] at hc1
    obtain ⟨⟨hce, hca⟩, hcb⟩ := hc1
    obtain ⟨hx, hr⟩ := ifB_some (show ifB (leTys τ c.τx) ((ty e τ).bind fun _ => (sty c a fz τ).bind fun r1 => (sty c b fz τ).bind fun r2 => some (joinO r1 r2)) = some r from hr)
    obtain ⟨T, eT, hr⟩ := Option.bind_eq_some_iff.mp hr
    obtain ⟨r1, e1, hr⟩ := Option.bind_eq_some_iff.mp hr
    obtain ⟨r2, e2, hr⟩ := Option.bind_eq_some_iff.mp hr
    cases hr
    have h0 := FinS.lft (τ := τ) ok si hx (show FinS X H₀ A₀ W c (lft δ (ev e δ >>= boolD) fun r => match r with
      | true => sev a δ
      | false => sev b δ) _ D from h)
    refine WS.of (ps_if pt_w pss_w pss_w) (ih.hT (si.at G) pc hce T eT _ (h0.imp fun c' H' e kf hf => ?_))
    have si' := si.grow ok e kf
    cases c' with
    | true =>
      show WSs X pa D σ H'
      exact iha.all G ok hfz si' pa hca r1 e1 D (FinS.weak hf joinO_l)
    | false =>
      show WSs X pb D σ H'
      exact ihb.all G ok hfz si' pb hcb r2 e2 D (FinS.weak hf joinO_r)
  | _ => exact absurd hc (by simp [cs1])
theorem snds_drop {e : E} (ih : Snd C e) : SndS C (.drop e) := by
  refine SndS.of (fun {S X H₀ A₀ W fz c τ δ σ nd H} G ok hfz si st hc r hr D h => ?_) (fun _ st => by cases st <;> rfl)
  cases st with
  | Expr pe pos =>
    have hc1 : (ck C.nb e S false pe && noComp pe) = true := by
      simp only [cs1] at hc
      exact hc
    simp only [Bool.and_eq_true] at hc1
    obtain ⟨hx, hr⟩ := ifB_some (show ifB (leTys τ c.τx) ((ty e τ).bind fun _ => some (some τ)) = some r from hr)
    obtain ⟨T, eT, hr⟩ := Option.bind_eq_some_iff.mp hr
    cases hr
    have h0 := FinS.lft (τ := τ) ok si hx (show FinS X H₀ A₀ W c (lft δ (ev e δ) fun _ => .nx δ) _ D from h)
    refine WS.of (ps_expr pe_w (noComp_sw hc1.2)) (ih.hE (si.at G) pe hc1.1 T eT _ (h0.imp fun d H' e1 kf hf v vl => ?_))
    exact hf τ rfl σ nd H' (si.grow ok e1 kf)
  | _ => exact absurd hc (by simp [cs1])
theorem snds_whi {fuel : Sl → Nat} {τi : Tys} {e : E} {b : S} (ih : Snd C e) (ihb : SndS C b) : SndS C (.whi fuel τi e b) := by
  refine SndS.of (fun {S X H₀ A₀ W fz c τ δ σ nd H} G ok hfz si st hc r hr D h => ?_) (fun _ st => by cases st <;> rfl)
  cases st with
  | While pc pbody orelse pos =>
    cases orelse with
    | cons _ _ => exact absurd hc (by simp [cs1])
    | nil =>
      have hc1 : (ck C.nb e S false pc && csk C.nb b S pbody) = true := hc
      simp only [Bool.and_eq_true] at hc1
      obtain ⟨hx, hr⟩ := ifB_some (show ifB (leTys τ τi && leTys τi c.τx) ((ty e τi).bind fun _ => (sty c b fz τi).bind fun r => ifB (leO r τi) (some (some τi))) = some r from hr)
      rw [Bool.and_eq_true] at hx
      obtain ⟨T, eT, hr⟩ := Option.bind_eq_some_iff.mp hr
      obtain ⟨rb, eb, hr⟩ := Option.bind_eq_some_iff.mp hr
      obtain ⟨hle, hr⟩ := ifB_some hr
      cases hr
      refine WS.of (ps_while G.own pt_w pss_w) ?_
      obtain ⟨nd1, si1, _⟩ := si.weak hx.1
      have h : FinS X H₀ A₀ W c (whL (fun δ => ev e δ >>= boolD) (sev b) (fuel δ) δ) (some τi) D := h
      refine ⟨fun m σ' H' => ∃ δ' nd', SI X.K H₀ A₀ W τi δ' σ' nd' H' ∧ FinS X H₀ A₀ W c (whL (fun δ => ev e δ >>= boolD) (sev b) m δ') (some τi) D, ⟨fuel δ, δ, nd1, si1, h⟩, ?_⟩
      rintro m σ2 H2 ⟨δ2, nd2, si2, h2⟩
      cases m with
      | zero => exact False.elim h2
      | succ m =>
        have h0 := FinS.lft (τ := τi) ok si2 hx.2 (show FinS X H₀ A₀ W c (lft δ2 (ev e δ2 >>= boolD) fun b' => match b' with
          | true => (sev b δ2).thn (whL (fun δ => ev e δ >>= boolD) (sev b) m)
          | false => .nx δ2) (some τi) D from h2)
        refine ih.hT (si2.at G) pc hc1.1 T eT _ (h0.imp fun c' H3 e3 kf3 hf => ?_)
        have si3 := si2.grow ok e3 kf3
        cases c' with
        | false =>
          rw [if_neg (by decide)]
          exact hf τi rfl σ2 nd2 H3 si3
        | true =>
          rw [if_pos rfl]
          refine ⟨fun σ' H' => ∃ δ' nd', SI X.K H₀ A₀ W τi δ' σ' nd' H' ∧ FinS X H₀ A₀ W c (whL (fun δ => ev e δ >>= boolD) (sev b) m δ') (some τi) D, fun σ' H' hN => ⟨m, Nat.lt_succ_self m, hN⟩, ?_⟩
          refine ihb.all G ok hfz si3 pbody hc1.2 rb eb _ ?_
          have hf : FinS X H₀ A₀ W c ((sev b δ2).thn (whL (fun δ => ev e δ >>= boolD) (sev b) m)) (some τi) D := hf
          cases q : sev b δ2 with
          | nx δ' =>
            rw [q] at hf
            intro τ1 e1 σ' nd' H' si'
            subst e1
            obtain ⟨nd4, si4, _⟩ := si'.weak hle
            exact ⟨δ', nd4, si4, hf⟩
          | rt d => rw [q] at hf; exact hf
          | ex x δ' => rw [q] at hf; exact hf
          | no => rw [q] at hf; exact hf
  | _ => exact absurd hc (by simp [cs1])
end
end VS
set_option Elab.async false
set_option linter.all false
set_option maxRecDepth 100000
namespace VS
open PySem PySem.Spec L2
open PyProof.Rows hiding St
section
variable {C : Ctx}
theorem sw_par {x y : Str} {px py pt pt2 : Pos} {k k2 : Nat} {a b : Expr} {env : Env} (hk : env.scope.kind = .function) (hx : env.scope.names.lookup x = some .local) (hy : env.scope.names.lookup y = some .local) (hl : (py.line == px.line) = true) (ne : x ≠ y)
    (ha : plainX a = true) (hb : plainX b = true) (h1 : [a, b].all (foldedForSure 8) = false) (h2 : [a, b].all (constantsAlone 8) = false) :
    swappedStores [.Tuple [.Name x px, .Name y py] k pt] (.Tuple [a, b] k2 pt2) env = pure (some [x, y]) := by
  have kx : env.kindOf x = some .local := hx
  have ky : env.kindOf y = some .local := hy
  have hbk : env.blockKind = .function := by unfold Env.blockKind; rw [hk]; rfl
  have hne : (y == x) = false := by simpa using fun e => ne e.symm
  have hed : ([x, y] : List Str).eraseDups = [x, y] := by
    simp [List.eraseDups_cons, hne]
  unfold swappedStores
  simp only [hbk, h1, h2, List.length_cons, List.length_nil, List.head?_cons, Option.map_some, Expr.pos, Option.getD_some, List.filterMap_cons, List.filterMap_nil, kx, ky, hl]
  simp [hed]
  intro h
  exfalso
  rcases h with h | h
  · cases a <;> simp_all [plainX]
  · cases b <;> simp_all [plainX]
theorem snds_par {i j : Nat} {es : E} (ih : Snd C es) : SndS C (.par i j es) := by
  refine SndS.of (fun {S X H₀ A₀ W fz c τ δ σ nd H} G ok hfz si st hc r hr D h => ?_) (fun _ st => by cases st <;> rfl)
  cases st with
  | Assign tgs pe pos =>
    rcases tgs with _ | ⟨ptg, _ | ⟨_, _⟩⟩ <;> try (exfalso; revert hc; simp [cs1]; done)
    have hc1 : (parC S i j ptg pe && cksT C.nb es S pe) = true := hc
    rw [Bool.and_eq_true] at hc1
    obtain ⟨hpar, hcs⟩ := hc1
    unfold parC at hpar
    split at hpar
    · rename_i x px y py k1 p1 a b k2 p2
      simp only [Bool.and_eq_true, decide_eq_true_eq, Bool.not_eq_true'] at hpar
      obtain ⟨⟨⟨⟨⟨⟨⟨⟨⟨⟨hi, hj⟩, hij⟩, hxy⟩, hx⟩, hy⟩, hl⟩, hpa⟩, hpb⟩, hf1⟩, hf2⟩ := hpar
      obtain ⟨hlx, hr⟩ := ifB_some (show ifB (leTys τ c.τx) ((tys es τ).bind fun T => some (some (setTy (.tup [i, j]) (some (T.nm, T.a)) (demT τ T.B)))) = some r from hr)
      obtain ⟨T, eT, hr⟩ := Option.bind_eq_some_iff.mp hr
      cases hr
      have h0 := FinS.lft (τ := τ) ok si hlx (show FinS X H₀ A₀ W c (lft δ (evl es δ) fun ds => lft δ (setTgs [i, j] ds δ) .nx) _ D from h)
      refine WS.of (ps_par (i := i) (j := j) G.G.calm (by rw [G.G.N]; exact G.G.nd) (by rw [G.G.N]; exact hi) (by rw [G.G.N]; exact hj) hij (by rw [G.G.sc]; exact hx) (by rw [G.G.sc]; exact hy) pa_w
        (sw_par (by rw [G.G.sc]; exact G.kind) (by rw [G.G.sc]; exact hx) (by rw [G.G.sc]; exact hy) hl hxy hpa hpb hf1 hf2)) ?_
      refine ih.hA (si.at G) [a, b] hcs T eT _ (h0.imp fun ds H' e1 kf1 hf vs vl => ?_)
      obtain ⟨nd', o, s, si', rv, A, ha⟩ := si.valL ok e1 kf1 vl
      rcases ds with _ | ⟨d1, _ | ⟨d2, _ | ⟨d3, ds⟩⟩⟩
      · exact False.elim hf
      · exact False.elim hf
      · have hf : FinS X H₀ A₀ W c (.nx ((δ.set i (some d1)).set j (some d2))) (some (setTy (.tup [i, j]) (some (T.nm, T.a)) (demT τ T.B))) D := hf
        rw [rwl_cons] at rv
        obtain ⟨v1, vs', o1, s1, o2', s2', rfl, rfl, rfl, r1, rv⟩ := rv
        rw [rwl_cons] at rv
        obtain ⟨v2, vs'', o2, s2, o3, s3, rfl, rfl, rfl, r2, rv⟩ := rv
        rw [rwl_nil] at rv
        obtain ⟨rfl, rfl, rfl⟩ := rv
        rw [List.append_nil, List.append_nil] at A
        rw [List.append_nil] at ha
        refine ⟨v1, v2, rfl, ?_⟩
        have n := List.nodup_append.mp A.dis
        have A1 : ApartN X.K H₀ A₀ W nd' o1 s1 := ⟨n.1, fun b hb hs => A.ap b (by simp [hb]) (by simp [hs]), fun b hb => A.new b (by simp [hb]), fun b hb => A.out b (by simp [hb]), fun q hq hb => A.pin q hq (by simp [hb]), fun b hb => A.shr b (by simp [hb]), fun b hb => A.free b (by simp [hb])⟩
        have si1 := si'.putA (i := i) (a := T.a) r1 A1 fun e b hb => ha e b (by simp [hb])
        have look : ∀ (k : Nat) (p : List Addr × List Addr), (nd'.set i (o1, s1))[k]? = some p → p = (o1, s1) ∨ nd'[k]? = some p := fun k p hj => by
          by_cases e : i = k
          · subst e
            have hl : i < nd'.length := by
              have := (List.getElem?_eq_some_iff.mp hj).1
              simpa using this
            rw [List.getElem?_set_self hl] at hj
            cases hj; exact .inl rfl
          · rw [List.getElem?_set_ne e] at hj; exact .inr hj
        have A2 : ApartN X.K H₀ A₀ W (nd'.set i (o1, s1)) o2 s2 := by
          refine ⟨n.2.1, fun b hb hs => A.ap b (by simp [hb]) (by simp [hs]), fun b hb => A.new b (by simp [hb]), fun b hb j p hj => ?_, fun q hq hb => A.pin q hq (by simp [hb]), fun b hb => A.shr b (by simp [hb]), fun b hb j p hj => ?_⟩
          · rcases look j p hj with z | z
            · subst z
              exact ⟨fun y => n.2.2 b y b hb rfl, fun y => A.ap b (by simp [hb]) (by simp [y])⟩
            · exact A.out b (by simp [hb]) j p z
          · rcases look j p hj with z | z
            · subst z
              exact fun y => A.ap b (by simp [y]) (by simp [hb])
            · exact A.free b (by simp [hb]) j p z
        exact hf _ rfl _ _ _ (si1.putA (i := j) (a := T.a) r2 A2 fun e b hb => ha e b (by simp [hb]))
      · exact False.elim hf
    · cases hpar
  | _ => exact absurd hc (by simp [cs1])
theorem nox_ok {α : Type} {r : R α} {f : α → Out} {δ : Sl} {X : Cx} {H₀ : Hp} {A₀ : List Addr} {W : Keep} {c : SC} {q : Option Tys} {D : Ends} (h : FinS X H₀ A₀ W c (lft δ (nox r) f) q D) : ∃ a, r = .ok a ∧ FinS X H₀ A₀ W c (f a) q D := by
  cases r with
  | ok a => exact ⟨a, rfl, h⟩
  | ex x => exact False.elim h
  | no => exact False.elim h
theorem demT_ne : ∀ (B : List Nat) (τ : Tys) {i : Nat}, i ∉ B → (demT τ B)[i]? = τ[i]?
  | [], τ, i, _ => rfl
  | j :: B, τ, i, h => by
    have hj : j ≠ i := fun e => h (e ▸ List.mem_cons_self)
    show (demT _ B)[i]? = _
    rw [demT_ne B _ fun z => h (List.mem_cons_of_mem _ z)]
    show (match τ[j]? with
      | some (some (_, a)) => τ.set j (some (.S, a))
      | _ => τ)[i]? = _
    split
    · rw [List.getElem?_set_ne hj]
    · rfl
theorem muT_slot {tf : Bool} {i n : Nat} {T : Tv} {τ τ' : Tys} (h : muT tf i n T τ = some τ') : ∃ t a te, τ[i]? = some (some (t, a)) ∧ tyAt n t = some te ∧ (tf = true → t = .F) := by
  unfold muT at h
  split at h
  · rename_i t a e
    obtain ⟨hc, _⟩ := ifB_some h
    simp only [Bool.and_eq_true, decide_eq_true_eq, Bool.or_eq_true, Bool.not_eq_true'] at hc
    obtain ⟨⟨hat, hiB⟩, htf⟩ := hc
    rw [demT_ne _ _ hiB] at e
    obtain ⟨te, h1⟩ := Option.isSome_iff_exists.mp hat
    refine ⟨t, a, te, e, h1, fun z => ?_⟩
    rcases htf with y | ⟨y, _⟩
    · rw [y] at z; cases z
    · exact y
  · cases h
theorem snds_app {tf : Bool} {p es : E} (hokp : okE C p) (hok : okE C es) : SndS C (.mu .app tf p es) := by
  refine SndS.of (fun {S X H₀ A₀ W fz c τ δ σ nd H} G ok hfz si st hc r hr D h => ?_) (fun _ st => by cases st <;> rfl)
  have ih := snd es hok
  cases st with
  | Expr pe pos =>
    cases pe with
    | Call f args kws cpos =>
      cases f with
      | Attribute po name apos =>
        cases kws with
        | cons _ _ => exact absurd hc (by cases args <;> simp [cs1])
        | nil =>
          cases args with
          | nil => exact absurd hc (by simp [cs1])
          | cons pa ps =>
            have hc1 : (decide (name = ("append" : Str)) && (apos.endLine == cpos.line) && isPth p && ck C.nb p S false po && cks C.nb es S (pa :: ps) && decide (ps.length < 20)) = true := hc
            simp only [Bool.and_eq_true, decide_eq_true_eq] at hc1
            obtain ⟨⟨⟨⟨⟨rfl, hline⟩, hpth⟩, hcp⟩, hcs⟩, hlen⟩ := hc1
            obtain ⟨hx, hr⟩ := ifB_some (show ifB (leTys τ c.τx && ptyOk p τ && decide (pthI p ∉ fz)) ((tys es τ).bind fun T => (muT tf (pthI p) (pthN p) T τ).bind fun τ' => some (some τ')) = some r from hr)
            simp only [Bool.and_eq_true, decide_eq_true_eq] at hx
            obtain ⟨⟨hlx, hpty⟩, hnf⟩ := hx
            obtain ⟨T, eT, hr⟩ := Option.bind_eq_some_iff.mp hr
            obtain ⟨τ', eM, hr⟩ := Option.bind_eq_some_iff.mp hr
            cases hr
            obtain ⟨ks, eks, h⟩ := nox_ok (show FinS X H₀ A₀ W c (lft δ (nox (pthD p δ)) fun ks => lft δ (slotD δ (pthI p)) fun d => lft δ (nox (modG tf .ok ks d)) fun _ => lft δ (evl es δ) fun ds => lft δ (nox (modG tf (mop .app ds) ks d)) fun d' => .nx (δ.set (pthI p) (some d'))) _ D from h)
            have hd : ∃ d, δ[pthI p]? = some (some d) ∧ FinS X H₀ A₀ W c (lft δ (nox (modG tf .ok ks d)) fun _ => lft δ (evl es δ) fun ds => lft δ (nox (modG tf (mop .app ds) ks d)) fun d' => .nx (δ.set (pthI p) (some d'))) (some τ') D := by
              unfold slotD at h
              split at h
              · rename_i d hd; exact ⟨d, hd, h⟩
              · exact False.elim h
            obtain ⟨d, hd, h⟩ := hd
            obtain ⟨d0, em0, h⟩ := nox_ok h
            have h0 := FinS.lft (τ := τ) ok si hlx h
            obtain ⟨t, aa, te0, et, hte0, htf0⟩ := muT_slot eM
            obtain ⟨v, o, s, hv, hnd, hrw, _⟩ := si.rep _ d t aa hd et
            obtain ⟨a, hpa⟩ := path_ex ks hrw em0
            have hkl : ks.length = pthN p := by
              have key : ∀ (p : E) (ks : List PyData), isPth p = true → pthD p δ = .ok ks → ks.length = pthN p := by
                intro p
                induction p with
                | sl i => intro ks _ e; cases e; rfl
                | ix q i ihq _ =>
                  intro ks hp e
                  obtain ⟨k1, h1, e⟩ := R.ok_of (show (pthD q δ >>= fun ks => ev i δ >>= fun k => R.ok (ks ++ [k])) = .ok ks from e)
                  obtain ⟨k2, h2, e⟩ := R.ok_of e
                  cases e
                  rw [List.length_append, ihq k1 hp h1]; rfl
                | _ => intro ks hp e; cases hp
              exact key p ks hpth eks
            have hfz' : ∀ q ∈ W.pn, pthI p ∉ q.2 := fun q hq z => hnf (hfz q hq _ z)
            rw [← hkl] at eM hte0
            have hcall : WE X (.Call (.Attribute po ("append" : Str) apos) (pa :: ps) [] cpos) σ H fun _ H' => D.nx σ H' := by
              have hpl := cks_plain hcs
              rw [List.all_cons, Bool.and_eq_true] at hpl
              have hbase : attributeBase po ("append" : Str) X.env (eval po X.env) = eval po X.env := by
                cases p with
                | sl i => cases po <;> first | rfl | exact absurd hcp (by simp [ck])
                | ix q i => cases po <;> first | rfl | exact absurd hcp (by simp [ck])
                | _ => cases hpth
              refine WE.kf (WE.of (pe_bm PySem.F.plainAttrs_list PySem.F.slot_list_append PySem.F.type_list_append mt_append pe_w pa_w hbase ?_ hline (star_plain hpl.1) (plain_any hpl.2)) ?_)
              · simp only [Bool.and_eq_true, decide_eq_true_eq]
                refine ⟨⟨?_, rfl⟩, ?_⟩
                · have := plain_any (pos := cpos) (env := X.env) (cks_plain hcs)
                  rw [List.all_eq_true]
                  intro x hx
                  rw [List.any_eq_false] at this
                  simpa using this x hx
                · simp; omega
              · refine we_path p hpth hokp (si.at G) po hcp hpty hv eks ⟨_, hpa⟩ fun w H1 e1 kf1 hw => ?_
                have ew := PathV.uniq kf1 ks hw (hpa.same e1 ks)
                subst ew
                have si1 := si.grow ok e1 kf1
                obtain ⟨v1, o1, s1, hv1, hnd1, hrw1, _⟩ := si1.rep _ d t aa hd et
                rw [hv] at hv1
                cases hv1
                have so := si1.slot _ _ hnd1
                obtain ⟨xs0, ys0, vs0, ol0, sl0, M0⟩ := Rw.mod kf1 ks hrw1 so.nd so.ap hte0 htf0 em0 hw
                refine ⟨.inl ⟨rfl, vs0, SqL.of M0.at_⟩, ih.hA (si1.at G) (pa :: ps) hcs T eT _ (FinG.imp (FinS.lft (τ := τ) ok si1 hlx h) fun ds H2 e2 kf2 hf vs vl => ?_)⟩
                obtain ⟨d', emod, hf⟩ := nox_ok hf
                obtain ⟨on, sn, rl, no, hno, hsn, ha⟩ := vl
                have hg : ∀ τ1, some τ' = some τ1 → ∀ σ' nd' H', SI X.K H₀ A₀ W τ1 (δ.set (pthI p) (some d')) σ' nd' H' → D.nx σ' H' := hf
                obtain ⟨te, xs, ys, vsl, ol, sl, hle, hfx, hat, hrl, m1, m2, m3, m4, m5, m6, m7, fin⟩ := SI.mutate ok si1 e2 kf2 no hno hsn ha eM hd hv hfz' emod (hw.same e2 ks)
                rcases ds with _ | ⟨d1, _ | ⟨d2, ds⟩⟩
                · cases hfx
                · have hfx : (if xs.length < sizeLine then R.ok (xs ++ [d1]) else .no) = .ok ys := hfx
                  by_cases hsz : xs.length < sizeLine
                  · rw [if_pos hsz] at hfx
                    cases hfx
                    obtain ⟨w1, rfl, rw1⟩ := rw_one rl
                    refine ⟨a, vsl, w1, rfl, rfl, hat, by rw [hrl.length]; exact hsz, fun kf3 => ?_⟩
                    obtain ⟨p1, q1, rw2, l⟩ := Rw.less d1 hle rw1
                    have mu : Mut (some (HO.lst vsl)) := trivial
                    have ap1 : a ∉ p1 := fun z => m3 (l.omem z)
                    have aq1 : a ∉ q1 := fun z => (l.mem z).elim m3 m4
                    have c1 : (ol ++ p1).Nodup := List.nodup_append.mpr ⟨m5, l.nodup no, fun b hb c hc e => (m6 b hb).2.1 (l.omem (e ▸ hc))⟩
                    have c2 : ∀ b ∈ ol ++ p1, b ∈ ol ∨ b ∈ on := fun b hb => (List.mem_append.mp hb).imp id fun z => l.omem z
                    have c3 : ∀ b ∈ sl ++ q1, b ∈ sl ∨ b ∈ sn ∨ b ∈ on := fun b hb => (List.mem_append.mp hb).imp id fun z => (l.mem z).symm
                    have c4 : ∀ b ∈ ol ++ p1, b ∉ sl ++ q1 := by
                      intro b hb hs
                      rcases List.mem_append.mp hb with hb | hb <;> rcases List.mem_append.mp hs with hs | hs
                      · exact (m6 b hb).1 hs
                      · exact (l.mem hs).elim (m6 b hb).2.1 (m6 b hb).2.2
                      · exact m7 b (l.omem hb) hs
                      · exact l.apart no (fun b hb => (hno b hb).2) b hb hs
                    obtain ⟨nd', si'⟩ := fin (vsl ++ [w1]) (ol ++ p1) (sl ++ q1) kf3 ((RwL.other hat mu m1 m2 hrl).app (RwL.one (Rw.other hat mu ap1 aq1 rw2))) c1 c2 c3 c4
                    exact hg τ' rfl σ nd' _ si'
                  · rw [if_neg hsz] at hfx; cases hfx
                · cases hfx
            exact WS.of (ps_expr pe_w) hcall
      | _ => exact absurd hc (by simp [cs1])
    | _ => exact absurd hc (by simp [cs1])
  | _ => exact absurd hc (by simp [cs1])
end
end VS
set_option Elab.async false
set_option linter.all false
set_option maxRecDepth 100000
namespace VS
open PySem PySem.Spec L2
open PyProof.Rows hiding St
section
variable {C : Ctx}
theorem snds_ext {tf : Bool} {p es : E} (hokp : okE C p) (hok : okE C es) : SndS C (.ext tf p es) := by
  refine SndS.of (fun {S X H₀ A₀ W fz c τ δ σ nd H} G ok hfz si st hc r hr D h => ?_) (fun _ st => by cases st <;> rfl)
  have ih := snd es hok
  cases st with
  | Expr pe pos =>
    cases pe with
    | Call f args kws cpos =>
      cases f with
      | Attribute po name apos =>
        cases kws with
        | cons _ _ => rcases args with _ | ⟨_, _ | ⟨_, _⟩⟩ <;> exact absurd (show false = true from hc) Bool.false_ne_true
        | nil =>
          cases args with
          | nil => exact absurd (show false = true from hc) Bool.false_ne_true
          | cons pa ps =>
            cases ps with
            | cons _ _ => exact absurd (show false = true from hc) Bool.false_ne_true
            | nil =>
            have hc1 : (decide (name = ("extend" : Str)) && (apos.endLine == cpos.line) && isPth p && ck C.nb p S false po && plainX pa && ck C.nb es S false pa) = true := hc
            simp only [Bool.and_eq_true, decide_eq_true_eq] at hc1
            obtain ⟨⟨⟨⟨⟨rfl, hline⟩, hpth⟩, hcp⟩, hplp⟩, hcs⟩ := hc1
            obtain ⟨hx, hr⟩ := ifB_some (show ifB (leTys τ c.τx && ptyOk p τ && decide (pthI p ∉ fz)) ((ty es τ).bind fun T => ifB (decide (T.nm ≠ .S)) ((muT tf (pthI p) (pthN p) (extT T) τ).bind fun τ' => some (some τ'))) = some r from hr)
            simp only [Bool.and_eq_true, decide_eq_true_eq] at hx
            obtain ⟨⟨hlx, hpty⟩, hnf⟩ := hx
            obtain ⟨T, eT, hr⟩ := Option.bind_eq_some_iff.mp hr
            obtain ⟨hTF, hr⟩ := ifB_some hr
            have hTF := of_decide_eq_true hTF
            have hTB : T.B = [] ∧ T.t ≠ .S := by
              rcases T.nm_or with ⟨z1, z2⟩ | z
              · exact ⟨z1, z2 ▸ hTF⟩
              · exact absurd z hTF
            have hTn : (extT T).nm = T.t.el := by
              unfold extT Tv.nm
              rw [if_pos hTB.1]
              simp [hTB.1]
            obtain ⟨τ', eM, hr⟩ := Option.bind_eq_some_iff.mp hr
            cases hr
            obtain ⟨ks, eks, h⟩ := nox_ok (show FinS X H₀ A₀ W c (lft δ (nox (pthD p δ)) fun ks => lft δ (slotD δ (pthI p)) fun d => lft δ (nox (modG tf .ok ks d)) fun _ => lft δ (ev es δ) fun ds => lft δ (nox (modG tf (extD ds) ks d)) fun d' => .nx (δ.set (pthI p) (some d'))) _ D from h)
            have hd : ∃ d, δ[pthI p]? = some (some d) ∧ FinS X H₀ A₀ W c (lft δ (nox (modG tf .ok ks d)) fun _ => lft δ (ev es δ) fun ds => lft δ (nox (modG tf (extD ds) ks d)) fun d' => .nx (δ.set (pthI p) (some d'))) (some τ') D := by
              unfold slotD at h
              split at h
              · rename_i d hd; exact ⟨d, hd, h⟩
              · exact False.elim h
            obtain ⟨d, hd, h⟩ := hd
            obtain ⟨d0, em0, h⟩ := nox_ok h
            have h0 := FinS.lft (τ := τ) ok si hlx h
            obtain ⟨t, aa, te0, et, hte0, htf0⟩ := muT_slot eM
            obtain ⟨v, o, s, hv, hnd, hrw, _⟩ := si.rep _ d t aa hd et
            obtain ⟨a, hpa⟩ := path_ex ks hrw em0
            have hkl : ks.length = pthN p := by
              have key : ∀ (p : E) (ks : List PyData), isPth p = true → pthD p δ = .ok ks → ks.length = pthN p := by
                intro p
                induction p with
                | sl i => intro ks _ e; cases e; rfl
                | ix q i ihq _ =>
                  intro ks hp e
                  obtain ⟨k1, h1, e⟩ := R.ok_of (show (pthD q δ >>= fun ks => ev i δ >>= fun k => R.ok (ks ++ [k])) = .ok ks from e)
                  obtain ⟨k2, h2, e⟩ := R.ok_of e
                  cases e
                  rw [List.length_append, ihq k1 hp h1]; rfl
                | _ => intro ks hp e; cases hp
              exact key p ks hpth eks
            have hfz' : ∀ q ∈ W.pn, pthI p ∉ q.2 := fun q hq z => hnf (hfz q hq _ z)
            rw [← hkl] at eM hte0
            have hcall : WE X (.Call (.Attribute po ("extend" : Str) apos) [pa] [] cpos) σ H fun _ H' => D.nx σ H' := by
              have hbase : attributeBase po ("extend" : Str) X.env (eval po X.env) = eval po X.env := by
                cases p with
                | sl i => cases po <;> first | rfl | exact absurd hcp (by simp [ck])
                | ix q i => cases po <;> first | rfl | exact absurd hcp (by simp [ck])
                | _ => cases hpth
              refine WE.kf (WE.of (pe_bm PySem.F.plainAttrs_list PySem.F.slot_list_extend PySem.F.type_list_extend mt_extend pe_w (pa_cons pe_w pa_nil (star_plain hplp)) hbase ?_ hline (star_plain hplp) (by rfl)) ?_)
              · simp only [Bool.and_eq_true, decide_eq_true_eq]
                refine ⟨⟨?_, rfl⟩, ?_⟩
                · have := plain_any (es := [pa]) (pos := cpos) (env := X.env) (by rw [List.all_cons, hplp]; rfl)
                  rw [List.all_eq_true]
                  intro x hx
                  rw [List.any_eq_false] at this
                  simpa using this x hx
                · simp
              · refine we_path p hpth hokp (si.at G) po hcp hpty hv eks ⟨_, hpa⟩ fun w H1 e1 kf1 hw => ?_
                have ew := PathV.uniq kf1 ks hw (hpa.same e1 ks)
                subst ew
                have si1 := si.grow ok e1 kf1
                obtain ⟨v1, o1, s1, hv1, hnd1, hrw1, _⟩ := si1.rep _ d t aa hd et
                rw [hv] at hv1
                cases hv1
                have so := si1.slot _ _ hnd1
                obtain ⟨xs0, ys0, vs0, ol0, sl0, M0⟩ := Rw.mod kf1 ks hrw1 so.nd so.ap hte0 htf0 em0 hw
                refine ⟨.inl ⟨rfl, vs0, SqL.of M0.at_⟩, ih.hE (si1.at G) pa hcs T eT _ (FinG.imp (FinS.lft (τ := τ) ok si1 hlx h) fun ds H2 e2 kf2 hf vs vl => ?_)⟩
                obtain ⟨d', emod, hf⟩ := nox_ok hf
                obtain ⟨on, sn, rl, no, hno, hsn, ha⟩ := vl
                have hg : ∀ τ1, some τ' = some τ1 → ∀ σ' nd' H', SI X.K H₀ A₀ W τ1 (δ.set (pthI p) (some d')) σ' nd' H' → D.nx σ' H' := hf
                obtain ⟨te, xs, ys, vsl, ol, sl, hle, hfx, hat, hrl, m1, m2, m3, m4, m5, m6, m7, fin⟩ := SI.mutate (T := extT T) ok si1 e2 kf2 no hno hsn ha eM hd hv hfz' emod (hw.same e2 ks)
                cases ds with
                | list zs =>
                  have hfx : (if xs.length + zs.length ≤ sizeLine then R.ok (xs ++ zs) else .no) = .ok ys := hfx
                  by_cases hsz : xs.length + zs.length ≤ sizeLine
                  · rw [if_pos hsz] at hfx
                    cases hfx
                    rw [hTn] at hle
                    obtain ⟨b, ws, o', s', rfl, hb, rw1, n1⟩ := rw_lst.mp rl
                    have hb : H2 b = some (.lst ws) := by
                      cases e : T.t with
                      | S => exact absurd e hTB.2
                      | F => rw [e] at hb; exact hb
                      | L u => rw [e] at hb; exact hb
                    have n1 : on = b :: o' ∧ sn = s' := by
                      cases e : T.t with
                      | S => exact absurd e hTB.2
                      | F => rw [e] at n1; exact n1
                      | L u => rw [e] at n1; exact n1
                    have hab : a ≠ b := fun z => m3 (by rw [n1.1, z]; exact List.mem_cons_self)
                    refine ⟨a, b, vsl, ws, rfl, rfl, hat, hb, by rw [hrl.length, rw1.length]; exact hsz, fun kf3 => ?_⟩
                    obtain ⟨p1, q1, rw2, l⟩ := RwL.less zs hle rw1
                    have sub : ∀ c, c ∈ o' → c ∈ on := fun c z => by rw [n1.1]; exact List.mem_cons_of_mem _ z
                    have no' : o'.Nodup := by have := no; rw [n1.1] at this; exact (List.nodup_cons.mp this).2
                    have mu : Mut (some (HO.lst vsl)) := trivial
                    have es : s' = sn := n1.2.symm
                    subst es
                    have ap1 : a ∉ p1 := fun z => m3 (sub _ (l.omem z))
                    have aq1 : a ∉ q1 := fun z => (l.mem z).elim (fun z => m3 (sub _ z)) m4
                    have c1 : (ol ++ p1).Nodup := List.nodup_append.mpr ⟨m5, l.nodup no', fun b hb c hc e => (m6 b hb).2.1 (sub _ (l.omem (e ▸ hc)))⟩
                    have c2 : ∀ b ∈ ol ++ p1, b ∈ ol ∨ b ∈ on := fun b hb => (List.mem_append.mp hb).imp id fun z => sub _ (l.omem z)
                    have c3 : ∀ b ∈ sl ++ q1, b ∈ sl ∨ b ∈ s' ∨ b ∈ on := fun b hb => (List.mem_append.mp hb).imp id fun z => (l.mem z).symm.imp id (sub _)
                    have c4 : ∀ b ∈ ol ++ p1, b ∉ sl ++ q1 := by
                      intro b hb hs
                      rcases List.mem_append.mp hb with hb | hb <;> rcases List.mem_append.mp hs with hs | hs
                      · exact (m6 b hb).1 hs
                      · exact (l.mem hs).elim (fun z => (m6 b hb).2.1 (sub _ z)) (m6 b hb).2.2
                      · exact m7 b (sub _ (l.omem hb)) hs
                      · exact l.apart no' (fun b hb => (hno b (sub _ hb)).2) b hb hs
                    obtain ⟨nd', si'⟩ := fin (vsl ++ ws) (ol ++ p1) (sl ++ q1) kf3 ((RwL.other hat mu m1 m2 hrl).app (RwL.other hat mu ap1 aq1 rw2)) c1 c2 c3 c4
                    exact hg τ' rfl σ nd' _ si'
                  · rw [if_neg hsz] at hfx; cases hfx
                | _ => cases hfx
            exact WS.of (ps_expr pe_w) hcall
      | _ => rcases args with _ | ⟨_, _ | ⟨_, _⟩⟩ <;> rcases kws with _ | ⟨_, _⟩ <;> exact absurd (show false = true from hc) Bool.false_ne_true
    | _ => exact absurd (show false = true from hc) Bool.false_ne_true
  | _ => exact absurd (show false = true from hc) Bool.false_ne_true
end
end VS
set_option Elab.async false
set_option linter.all false
set_option maxRecDepth 100000
namespace VS
open PySem PySem.Spec L2
open PyProof.Rows hiding St
theorem last_split {α : Type} : ∀ {xs : List α} {y : α}, xs[xs.length - 1]? = some y → xs = xs.dropLast ++ [y]
  | [], y, h => by cases h
  | [x], y, h => by cases h; rfl
  | x :: z :: xs, y, h => by
    have h : (z :: xs)[(z :: xs).length - 1]? = some y := by simpa using h
    show x :: (z :: xs) = x :: ((z :: xs).dropLast ++ [y])
    rw [← last_split h]
theorem drop_split {α : Type} {vs : List α} {A B : List α} (h : vs = A ++ B) (h1 : B.length = 1) : A = vs.dropLast := by
  subst h
  match B, h1 with
  | [b], _ => simp
section
variable {C : Ctx}
theorem own_lst {K : PySem.W.Frag} {H : Hp} {xs : List D} {t te : Ty} {v : V} {o s : List Addr} (h : Rw K H (.list xs) t v o s) (ht : tyAt 0 t = some te) : ∃ a vs o', v = .ref a ∧ H a = some (.lst vs) ∧ RwL K H xs te vs o' s ∧ o = a :: o' := by
  obtain ⟨a, vs, o', s', rfl, h1, h2, h3⟩ := rw_lst.mp h
  cases t with
  | S => cases ht
  | F => cases ht; exact ⟨a, vs, o', rfl, h1, by rw [h3.2]; exact h2, h3.1⟩
  | L u => cases ht; exact ⟨a, vs, o', rfl, h1, by rw [h3.2]; exact h2, h3.1⟩
theorem popA_of {st : Stmt} {ptg : Expr} {y : Str} (h : popA st = some (ptg, y)) : ∃ py apos cpos pos, st = .Assign [ptg] (.Call (.Attribute (.Name y py) "pop" apos) [] [] cpos) pos ∧ (apos.endLine == cpos.line) = true := by
  unfold popA at h
  split at h
  · split at h
    · rename_i c
      cases h
      simp only [Bool.and_eq_true, decide_eq_true_eq] at c
      obtain ⟨rfl, c⟩ := c
      exact ⟨_, _, _, _, rfl, c⟩
    · cases h
  · cases h
theorem apoA_of {st : Stmt} {pa : Expr} {x y : Str} (h : apoA st = some (x, y, pa)) : ∃ px py apos cpos apos2 cpos2 pos, st = .Expr (.Call (.Attribute (.Name x px) "append" apos) [.Call (.Attribute (.Name y py) "pop" apos2) [pa] [] cpos2] [] cpos) pos ∧ (apos.endLine == cpos.line) = true ∧ (apos2.endLine == cpos2.line) = true := by
  unfold apoA at h
  split at h
  · split at h
    · rename_i c
      cases h
      simp only [Bool.and_eq_true, decide_eq_true_eq] at c
      obtain ⟨⟨⟨rfl, rfl⟩, c⟩, c2⟩ := c
      exact ⟨_, _, _, _, _, _, _, rfl, c, c2⟩
    · cases h
  · cases h
theorem snds_popL {im : Bool} {i j : Nat} : SndS C (.popL im i j) := by
  refine SndS.of (fun {S X H₀ A₀ W fz c τ δ σ nd H} G ok hfz si st hc r hr D h => ?_) (fun _ st => by cases st <;> rfl)
  have hc : (match popA st with
    | some (ptg, y) => tgC S (.one i) ptg && visC S j y
    | none => false) = true := hc
  cases hp : popA st with
  | none => rw [hp] at hc; cases hc
  | some q =>
  obtain ⟨ptg, y⟩ := q
  rw [hp] at hc
  have hc : (tgC S (.one i) ptg && visC S j y) = true := hc
  rw [Bool.and_eq_true] at hc
  obtain ⟨hct, hcv⟩ := hc
  obtain ⟨py, apos, cpos, pos, rfl, hline⟩ := popA_of hp
  cases ptg with
  | Name x px =>
    have hct1 : stoC S i x = true := hct
    obtain ⟨k1, k2, k3⟩ := stoC_get G.G hct1
    obtain ⟨g1, g2, g3, g4⟩ := vis_of G.G hcv
    obtain ⟨hx, hr⟩ := ifB_some (show ifB (leTys τ c.τx && decide (i ≠ j) && decide (j ∉ fz)) (match τ[j]? with
      | some (some (t, a)) => ifB (im || decide (t = .L .S)) ((muT false j 0 .fr (τ.set i (some (if im = true then (.F, false) else (.S, a))))).bind fun τ' => some (some τ'))
      | _ => none) = some r from hr)
    simp only [Bool.and_eq_true, decide_eq_true_eq] at hx
    obtain ⟨⟨hlx, hij⟩, hnf⟩ := hx
    split at hr
    · rename_i t a et
      obtain ⟨him, hr⟩ := ifB_some hr
      obtain ⟨τ', eM, hr⟩ := Option.bind_eq_some_iff.mp hr
      cases hr
      have h : FinS X H₀ A₀ W c (lft δ (slotD δ j) fun d => match d with
        | .list xs => match xs[xs.length - 1]? with
          | some y => if im = true → imm y = true then .nx ((δ.set i (some y)).set j (some (.list xs.dropLast))) else .no
          | none => .no
        | _ => .no) _ D := h
      unfold slotD at h
      split at h
      · rename_i d hd
        have h : FinS X H₀ A₀ W c (match (generalizing := false) d with
          | .list xs => match xs[xs.length - 1]? with
            | some y => if im = true → imm y = true then .nx ((δ.set i (some y)).set j (some (.list xs.dropLast))) else .no
            | none => .no
          | _ => .no) _ D := h
        cases d with
        | list xs =>
          cases hy : xs[xs.length - 1]? with
          | none => simp only [hy] at h; exact False.elim h
          | some yd =>
            simp only [hy] at h
            by_cases hc : im = true → imm yd = true
            · rw [if_pos hc] at h
              have hg : ∀ τ1, some τ' = some τ1 → ∀ σ' nd' H', SI X.K H₀ A₀ W τ1 ((δ.set i (some yd)).set j (some (.list xs.dropLast))) σ' nd' H' → D.nx σ' H' := h
              obtain ⟨t2, aa, te0, et2, hte0, _⟩ := muT_slot eM
              rw [List.getElem?_set_ne hij, et] at et2
              cases et2
              obtain ⟨v, o, s, hv, hnd, hrw, hfl⟩ := si.rep j _ t a hd et
              have so := si.slot j _ hnd
              obtain ⟨l, vs, o', rfl, hl, hvs, rfl⟩ := own_lst hrw hte0
              obtain ⟨w, o1, s1, hw, rw1, sub1, sub2⟩ := hvs.item hy
              have hit : ∃ s2, (∀ b ∈ s2, b ∈ s) ∧ Rw X.K H yd (if im = true then ((.F, false) : Ty × Bool) else (.S, a)).1 w [] s2 ∧ ((if im = true then ((.F, false) : Ty × Bool) else (.S, a)).2 = false → ∀ b ∈ s2, New X.K H₀ b) := by
                cases im with
                | true =>
                  obtain ⟨e1, e2, e3⟩ := Rw.imm yd (hc rfl) rw1
                  exact ⟨[], by simp, e3 _, by simp⟩
                | false =>
                  have ht : t = .L .S := by simpa using him
                  subst ht
                  cases hte0
                  have := Rw.s_o yd rw1
                  subst this
                  exact ⟨s1, fun b hb => sub2.subset hb, rw1, fun e b hb => hfl e b (sub2.subset hb)⟩
              obtain ⟨s2, hs2, rw2, hf2⟩ := hit
              have A : ApartN X.K H₀ A₀ W nd [] s2 := ⟨List.nodup_nil, by simp, by simp, by simp, by simp, fun b hb => so.shr b (hs2 b hb), fun b hb k p hk hm => by
                by_cases e : k = j
                · subst e
                  rw [hnd] at hk
                  cases hk
                  exact so.ap b hm (hs2 b hb)
                · exact (si.sep k j p _ hk hnd e b hm).2 (hs2 b hb)⟩
              have si1 := si.putA (i := i) rw2 A hf2
              have hd1 : (δ.set i (some yd))[j]? = some (some (.list xs)) := by rw [List.getElem?_set_ne hij]; exact hd
              have hv1 : (σ.set i (some w))[j]? = some (some (.ref l)) := by rw [List.getElem?_set_ne hij]; exact hv
              have hfz' : ∀ q ∈ W.pn, j ∉ q.2 := fun q hq z => hnf (hfz q hq _ z)
              have eM' : muT false j (([] : List PyData)).length .fr (τ.set i (some ((if im = true then ((.F, false) : Ty × Bool) else (.S, a)).1, (if im = true then ((.F, false) : Ty × Bool) else (.S, a)).2))) = some τ' := eM
              obtain ⟨te, xs', ys, vsl, ol, sl, hle, hfx, hat, hrl, m1, m2, m3, m4, m5, m6, m7, fin⟩ := SI.mutate (T := .fr) (on := []) (sn := []) (f := fun xs => .ok xs.dropLast) (ks := []) (d := .list xs) (d' := .list xs.dropLast) (a := l) ok si1 (Same.refl H) si.kf List.nodup_nil (by simp) (by simp) (by simp) eM' hd1 hv1 hfz' rfl rfl
              rw [hl] at hat
              cases hat
              have lenV : vs.length = xs.length := hvs.length
              have lenV' : vs.length = xs'.length := hrl.length
              have hpos : 0 < xs.length := by
                by_cases z : 0 < xs.length
                · exact z
                · have : xs = [] := List.length_eq_zero_iff.mp (by omega)
                  subst this
                  cases hy
              obtain ⟨y', hy'⟩ : ∃ y', xs'[xs'.length - 1]? = some y' := ⟨xs'[xs'.length - 1]'(by omega), by simp⟩
              have exs := last_split hy'
              cases hfx
              rw [exs] at hrl
              obtain ⟨v1, v2, p1, q1, p2, q2, ev, rfl, rfl, rA, rB⟩ := RwL.split hrl
              have lB : v2.length = 1 := by rw [rB.length]; rfl
              have evd := drop_split ev lB
              have mu : Mut (some (HO.lst vs)) := trivial
              refine WS.of (ps_asg pe_w pg_w (by rfl) (tg_swap hct (by rfl)) (tg_assign hct)) ?_
              refine WE.kf (WE.of (pe_bm0 PySem.F.plainAttrs_list PySem.F.slot_list_pop PySem.F.type_list_pop mt_pop (pe_var g1 g2 g3 g4) (by rfl) hline) ⟨.ref l, hv, .inl ⟨rfl, vs, SqL.of hl⟩, l, vs, w, rfl, rfl, hl, by rw [lenV]; exact hw, fun kf3 => ?_⟩)
              refine WG.of (pg_name (i := i) (by rw [G.G.N]; exact G.G.nd) k1 k2 k3) ?_
              have n1 := List.nodup_append.mp m5
              obtain ⟨nd', si'⟩ := fin vs.dropLast p1 q1 kf3 (by rw [← evd]; exact RwL.other hl mu (fun z => m1 (by simp [z])) (fun z => m2 (by simp [z])) rA) n1.1 (fun b hb => .inl (by simp [hb])) (fun b hb => .inl (by simp [hb])) (fun b hb z => (m6 b (by simp [hb])).1 (by simp [z]))
              exact hg τ' rfl _ nd' _ si'
            · rw [if_neg hc] at h; exact False.elim h
        | _ => exact False.elim h
      · exact False.elim h
    · cases hr
  | _ => cases hct
theorem slotL_ok {δ : Sl} {i : Nat} {xs : List D} (h : slotL δ i = .ok xs) : δ[i]? = some (some (.list xs)) := by
  unfold slotL at h
  split at h
  · rename_i e
    cases h
    exact e
  · cases h
theorem popIx_ok {xs ys : List D} {k y : D} (h : popIx xs k = .ok (ys, y)) : ∃ m, stepD xs k = some m ∧ xs[m]? = some y ∧ imm y = true ∧ ys = xs.eraseIdx m ∧ True := by
  unfold popIx at h
  split at h
  · rename_i m em
    split at h
    · rename_i z ez
      by_cases c : imm z = true
      · rw [if_pos c] at h
        cases h
        exact ⟨m, em, ez, c, rfl, trivial⟩
      · rw [if_neg c] at h; cases h
    · cases h
  · cases h
theorem snds_apo {i j : Nat} {e : E} (hok : okE C e) : SndS C (.apo i j e) := by
  have ih := snd e hok
  refine SndS.of (fun {S X H₀ A₀ W fz c τ δ σ nd H} G ok hfz si st hc r hr D h => ?_) (fun _ st => by cases st <;> rfl)
  have hc : (match apoA st with
    | some (x, y, pa) => visC S i x && visC S j y && plainX pa && ck C.nb e S false pa
    | none => false) = true := hc
  cases hp : apoA st with
  | none => rw [hp] at hc; cases hc
  | some q =>
  obtain ⟨x, y, pa⟩ := q
  rw [hp] at hc
  have hc : (visC S i x && visC S j y && plainX pa && ck C.nb e S false pa) = true := hc
  simp only [Bool.and_eq_true] at hc
  obtain ⟨⟨⟨hcx, hcy⟩, hpl⟩, hce⟩ := hc
  obtain ⟨px, py, apos, cpos, apos2, cpos2, pos, rfl, hline, hline2⟩ := apoA_of hp
  obtain ⟨k1, k2, k3, k4⟩ := vis_of G.G hcx
  obtain ⟨g1, g2, g3, g4⟩ := vis_of G.G hcy
  obtain ⟨hx, hr⟩ := ifB_some (show ifB (leTys τ c.τx && decide (i ≠ j) && decide (i ∉ fz) && decide (j ∉ fz)) ((ty e τ).bind fun _ => (muT false j 0 .fr τ).bind fun τ1 => (muT false i 0 .fr τ1).bind fun τ' => some (some τ')) = some r from hr)
  simp only [Bool.and_eq_true, decide_eq_true_eq] at hx
  obtain ⟨⟨⟨hlx, hij⟩, hni⟩, hnj⟩ := hx
  obtain ⟨T, eT, hr⟩ := Option.bind_eq_some_iff.mp hr
  obtain ⟨τ1, eM1, hr⟩ := Option.bind_eq_some_iff.mp hr
  obtain ⟨τ', eM2, hr⟩ := Option.bind_eq_some_iff.mp hr
  cases hr
  have hfzi : ∀ q ∈ W.pn, i ∉ q.2 := fun q hq z => hni (hfz q hq _ z)
  have hfzj : ∀ q ∈ W.pn, j ∉ q.2 := fun q hq z => hnj (hfz q hq _ z)
  have h : FinS X H₀ A₀ W c (lft δ (nox (slotL δ i)) fun zs => lft δ (nox (slotL δ j)) fun xs => lft δ (ev e δ) fun k => lft δ (nox (popIx xs k)) fun p =>
    if zs.length < sizeLine then .nx ((δ.set j (some (.list p.1))).set i (some (.list (zs ++ [p.2])))) else .no) (some τ') D := h
  obtain ⟨zs, ez, h⟩ := nox_ok h
  have hd0 := slotL_ok ez
  obtain ⟨xs, ex, h⟩ := nox_ok h
  have hdj := slotL_ok ex
  obtain ⟨tj, aj, tej, etj, htej, _⟩ := muT_slot eM1
  obtain ⟨ti1, ai1, tei, eti, htei, _⟩ := muT_slot eM2
  -- the slot i has an owned list before, too
  have heti : τ[i]? = some (some (ti1, ai1)) := by
    unfold muT at eM1
    split at eM1
    · obtain ⟨_, eM1⟩ := ifB_some eM1
      cases eM1
      rw [List.getElem?_set_ne (Ne.symm hij)] at eti
      exact eti
    · cases eM1
  obtain ⟨v0, o0, s0, hv0, hnd0, hrw0, _⟩ := si.rep i _ _ _ hd0 heti
  obtain ⟨l0, vs0, _, rfl, hl0, _, _⟩ := own_lst hrw0 htei
  refine WS.of (ps_expr pe_w) ?_
  have h0 := FinS.lft (τ := τ) ok si hlx h
  refine WE.kf (WE.of (pe_bm PySem.F.plainAttrs_list PySem.F.slot_list_append PySem.F.type_list_append mt_append (pe_var k1 k2 k3 k4) (pa_cons pe_w pa_nil (by rfl)) (by rfl) (by rfl) hline (by rfl) (by rfl)) ⟨.ref l0, hv0, .inl ⟨rfl, vs0, SqL.of hl0⟩, ?_⟩)
  -- the list that is popped from, as it is before
  obtain ⟨vj, oj, sj, hvj, hndj, hrwj, _⟩ := si.rep j _ _ _ hdj etj
  obtain ⟨lj, vsj, _, rfl, hlj, _, _⟩ := own_lst hrwj htej
  refine WE.kf (WE.of (pe_bm PySem.F.plainAttrs_list PySem.F.slot_list_pop PySem.F.type_list_pop mt_popAt (pe_var g1 g2 g3 g4) (pa_cons pe_w pa_nil (star_plain hpl)) (by rfl) ?_ hline2 (star_plain hpl) (by rfl)) ⟨.ref lj, hvj, .inl ⟨rfl, vsj, SqL.of hlj⟩, ?_⟩)
  · simp only [Bool.and_eq_true, decide_eq_true_eq]
    refine ⟨⟨?_, rfl⟩, ?_⟩
    · have := plain_any (es := [pa]) (pos := cpos2) (env := X.env) (by rw [List.all_cons, hpl]; rfl)
      rw [List.all_eq_true]
      intro x hx
      rw [List.any_eq_false] at this
      simpa using this x hx
    · simp
  · refine ih.hE (si.at G) pa hce T eT _ (h0.imp fun k H2 e2 kf2 hf kv vk => ?_)
    obtain ⟨⟨ys, y⟩, ep, hf⟩ := nox_ok hf
    obtain ⟨m, em, hm, hi, rfl, _⟩ := popIx_ok ep
    have hf : FinS X H₀ A₀ W c (if zs.length < sizeLine then .nx ((δ.set j (some (.list (xs.eraseIdx m)))).set i (some (.list (zs ++ [y])))) else .no) (some τ') D := hf
    by_cases hz : zs.length < sizeLine
    · rw [if_pos hz] at hf
      have hg : ∀ τ1, some τ' = some τ1 → ∀ σ' nd' H', SI X.K H₀ A₀ W τ1 ((δ.set j (some (.list (xs.eraseIdx m)))).set i (some (.list (zs ++ [y])))) σ' nd' H' → D.nx σ' H' := hf
      have si2 := si.grow ok e2 kf2
      have eM1' : muT false j (([] : List PyData)).length .fr τ = some τ1 := eM1
      have eM2' : muT false i (([] : List PyData)).length .fr τ1 = some τ' := eM2
      obtain ⟨vj2, oj2, sj2, hvj2, hndj2, hrwj2, _⟩ := si2.rep j _ _ _ hdj etj
      obtain ⟨lj2, vs2, o2', rfl, hl2, hr2, _⟩ := own_lst hrwj2 htej
      rw [hvj] at hvj2
      cases hvj2
      obtain ⟨w, ow, sw, hw, rw1, _, _⟩ := hr2.item hm
      have hwi := (Rw.imm y hi rw1).2.2
      obtain ⟨te, xs', zs', vsl, ol, sl, hle, hfx, hat, hrl, m1, m2, m3, m4, m5, m6, m7, fin⟩ := SI.mutate (T := .fr) (on := []) (sn := []) (f := fun l => .ok (l.eraseIdx m)) (ks := []) (d := .list xs) (d' := .list (xs.eraseIdx m)) (a := lj) ok si2 (Same.refl H2) kf2 List.nodup_nil (by simp) (by simp) (by simp) eM1' hdj hvj hfzj rfl rfl
      rw [hl2] at hat
      cases hat
      have lenV : vs2.length = xs.length := hr2.length
      have lenV' : vs2.length = xs'.length := hrl.length
      have hml : m < xs.length := (List.getElem?_eq_some_iff.mp hm).1
      cases k with
      | int n =>
        obtain ⟨_, _, _, rx⟩ := vk.rw
        rw [rw_int] at rx
        obtain ⟨rfl, _⟩ := rx
        obtain ⟨q1, q2, q3, q4⟩ := ixN_seq (show ixN xs.length n = some m from em)
        have hsz : vs2.length ≤ sizeLine := (si2.kf.2 _ _ (.inl (SqL.of hl2)))
        have sz : (sizeLine : Int) < 2 ^ 62 := by decide
        refine ⟨lj, vs2, n, m, w, rfl, rfl, hl2, by omega, by omega, by rw [lenV]; exact q1, hw, fun kf3 => ?_⟩
        have mu : Mut (some (HO.lst vs2)) := trivial
        obtain ⟨w0, oA, ox, oB, sA, sx, sB, vA, vB, rfl, hvA, hw0, rfl, rfl, r1, r2, r3⟩ := hrl.setAt (j := m) (x := xs'[m]'(by omega)) (by simp)
        cases hfx
        have ee : (vA ++ w0 :: vB).eraseIdx m = vA ++ vB := by
          rw [← hvA, List.eraseIdx_append_of_length_le (Nat.le_refl _)]
          simp
        have ex' : xs'.eraseIdx m = xs'.take m ++ xs'.drop (m + 1) := List.eraseIdx_eq_take_drop_succ _ _
        have n1 := List.nodup_append.mp m5
        have n2 := List.nodup_append.mp n1.2.1
        obtain ⟨nd3, si3⟩ := fin ((vA ++ w0 :: vB).eraseIdx m) (oA ++ oB) (sA ++ sB) kf3 (by
          rw [ex', ee]
          rw [ee] at kf3
          exact (RwL.other hl2 mu (fun z => m1 (by simp [z])) (fun z => m2 (by simp [z])) r1).app (RwL.other hl2 mu (fun z => m1 (by simp [z])) (fun z => m2 (by simp [z])) r3))
          (List.nodup_append.mpr ⟨n1.1, n2.2.1, fun b hb c hc => n1.2.2 b hb c (by simp [hc])⟩)
          (fun b hb => .inl (by rcases List.mem_append.mp hb with z | z <;> simp [z]))
          (fun b hb => .inl (by rcases List.mem_append.mp hb with z | z <;> simp [z]))
          (fun b hb hs => (m6 b (by rcases List.mem_append.mp hb with z | z <;> simp [z])).1 (by rcases List.mem_append.mp hs with z | z <;> simp [z]))
        have hy3 : Rw X.K (upd H2 lj (.lst ((vA ++ w0 :: vB).eraseIdx m))) y .F w [] [] := Rw.other hl2 mu (by simp) (by simp) (hwi .F)
        have hd3 : (δ.set j (some (.list (xs.eraseIdx m))))[i]? = some (some (.list zs)) := by rw [List.getElem?_set_ne (Ne.symm hij)]; exact hd0
        obtain ⟨v4, o4, s4, hv4, hnd4, hrw4, _⟩ := si3.rep i _ _ _ hd3 eti
        rw [hv0] at hv4
        cases hv4
        obtain ⟨l5, vs5, o5, e5, hl5, hr5, _⟩ := own_lst hrw4 htei
        cases e5
        obtain ⟨te2, xs2, zs2, vsl2, ol2, sl2, hle2, hfx2, hat2, hrl2, p1, p2, p3, p4, p5, p6, p7, fin2⟩ := SI.mutate (T := .fr) (on := []) (sn := []) (f := fun l => .ok (l ++ [y])) (ks := []) (d := .list zs) (d' := .list (zs ++ [y])) (a := l0) ok si3 (Same.refl _) kf3 List.nodup_nil (by simp) (by simp) (by simp) eM2' hd3 hv0 hfzi rfl rfl
        rw [hl5] at hat2
        cases hat2
        cases hfx2
        have len5 : vs5.length = zs.length := hr5.length
        refine ⟨l0, vs5, w, rfl, rfl, hl5, by omega, fun kf4 => ?_⟩
        have mu5 : Mut (some (HO.lst vs5)) := trivial
        obtain ⟨_, _, hyt⟩ := Rw.imm y hi hy3
        obtain ⟨nd6, si6⟩ := fin2 (vs5 ++ [w]) ol2 sl2 kf4 (by
          have a1 := RwL.other (w := HO.lst (vs5 ++ [w])) hl5 mu5 p1 p2 hrl2
          have a2 := RwL.one (Rw.other (w := HO.lst (vs5 ++ [w])) hl5 mu5 (by simp) (by simp) (hyt te2))
          have := a1.app a2
          rw [List.append_nil, List.append_nil] at this
          exact this) p5 (fun b hb => .inl hb) (fun b hb => .inl hb) (fun b hb => (p6 b hb).1)
        exact hg τ' rfl _ nd6 _ si6
      | _ => cases em
    · rw [if_neg hz] at hf; exact False.elim hf
end
end VS
set_option Elab.async false
set_option linter.all false
set_option maxRecDepth 100000
namespace VS
open PySem PySem.Spec L2
open PyProof.Rows hiding St
section
variable {C : Ctx}
theorem setTg_ex {tg : Tg} {d : PyData} {δ : Sl} {x : Ex} : setTg tg d δ ≠ .ex x := by
  cases tg with
  | one i => exact nofun
  | tup is =>
    cases d with
    | tuple ds =>
      have key : ∀ (is : List Nat) (ds : List PyData) (δ : Sl), setTgs is ds δ ≠ .ex x := by
        intro is
        induction is with
        | nil => intro ds δ; cases ds <;> exact nofun
        | cons i is ih => intro ds δ; cases ds with
          | nil => exact nofun
          | cons d ds => exact ih ds _
      exact key is ds δ
    | _ => exact nofun
theorem Itk.go' {K : PySem.W.Frag} {J : It} {vs : List V} {St : Hp → Prop} (h : Itk K J vs St) : True := trivial
theorem snds_for {tg : Tg} {it : E} {im : Bool} {τi : Tys} {b : S} (ih : Snd C it) (ihb : SndS C b) : SndS C (.forE tg it im τi b) := by
  refine SndS.of (fun {S X H₀ A₀ W fz c τ δ σ nd H} G ok hfz si st hc r hr D h => ?_) (fun _ st => by cases st <;> rfl)
  cases st with
  | For ptg pit pbody orelse pos =>
    cases orelse with
    | cons _ _ => exact absurd hc (by simp [cs1])
    | nil =>
      have hc1 : (ck C.nb it S true pit && plainX pit && tgC S tg ptg && csk C.nb b S pbody) = true := hc
      simp only [Bool.and_eq_true] at hc1
      obtain ⟨⟨⟨hci, hpl⟩, hct⟩, hcb⟩ := hc1
      obtain ⟨hx, hr⟩ := ifB_some (show ifB (leTys τ c.τx && leTys τ τi) ((ty it τ).bind fun T => ifB (im || T.B.all fun j => match τi[j]? with
        | some (some (t, _)) => decide (t = .S)
        | _ => true) ((sty c b (fz ++ T.B) (setTy tg (some (if im = true then (.F, false) else (.S, T.a))) τi)).bind fun r => ifB (leO r τi) (some (some τi)))) = some r from hr)
      rw [Bool.and_eq_true] at hx
      obtain ⟨T, eT, hr⟩ := Option.bind_eq_some_iff.mp hr
      obtain ⟨hdem, hr⟩ := ifB_some hr
      obtain ⟨rb, eb, hr⟩ := Option.bind_eq_some_iff.mp hr
      obtain ⟨hle, hr⟩ := ifB_some hr
      cases hr
      have h0 := FinS.lft (τ := τ) ok si hx.1 (show FinS X H₀ A₀ W c (lft δ (ev it δ >>= iterD) fun xs => match (!im || immL xs) with
        | true => forL (fun x δ => lft δ (setTg tg x δ) (sev b)) xs δ
        | false => .no) (some τi) D from h)
      refine WS.of (ps_for G.own G.G.calm pi_w pg_w pss_w (plain_folded hpl)) ?_
      refine ih.hI (si.at G) ptg pit hci T eT _ (h0.imp fun xs H1 e1 kf1 hf J vs St w hJ hSt hStd hsz hw hvl => ?_)
      cases him : (!im || immL xs) with
      | false => rw [him] at hf; exact False.elim hf
      | true =>
        rw [him] at hf
        have hf : FinS X H₀ A₀ W c (forL (fun x δ => lft δ (setTg tg x δ) (sev b)) xs δ) (some τi) D := hf
        obtain ⟨sI, rI, hsI, haI⟩ := hvl.allS si.sm
        have lenV : vs.length = xs.length := rI.length
        have imI : im = true → sI = [] := fun e => by
          subst e
          exact (RwL.imm xs him rI).2.1
        obtain ⟨nd1, si1, nl⟩ := (si.grow ok e1 kf1).weak hx.2
        let W' : Keep := ⟨w.toList.map (fun a => (a, T.B)) ++ (sI.map (fun b => (b, ([] : List Nat))) ++ W.pn), fun H => W.J H ∧ St H ∧ RwL X.K H xs .S vs [] sI⟩
        have inW : ∀ q, q ∈ W'.pn ↔ ((∃ a, w = some a ∧ q = (a, T.B)) ∨ (∃ b ∈ sI, q = (b, [])) ∨ q ∈ W.pn) := fun q => by
          show q ∈ w.toList.map (fun a => (a, T.B)) ++ (sI.map (fun b => (b, ([] : List Nat))) ++ W.pn) ↔ _
          rw [List.mem_append, List.mem_append]
          have e1 : q ∈ w.toList.map (fun a => (a, T.B)) ↔ ∃ a, w = some a ∧ q = (a, T.B) := by
            cases w with
            | none => simp
            | some a => simp
          have e2 : q ∈ sI.map (fun b => (b, ([] : List Nat))) ↔ ∃ b ∈ sI, q = (b, []) := by
            rw [List.mem_map]
            exact ⟨fun ⟨b, h1, h2⟩ => ⟨b, h1, h2.symm⟩, fun ⟨b, h1, h2⟩ => ⟨b, h1, h2.symm⟩⟩
          rw [e1, e2]
        have ok' : KeepOk W' := by
          refine ⟨fun Ha Hc e ⟨j1, j2, j3⟩ => ⟨ok.same _ _ e j1, hStd.1 _ _ e j2, RwL.same e _ j3⟩, fun Ha a u mu hp ⟨j1, j2, j3⟩ => ⟨?_, ?_, ?_⟩⟩
          · exact ok.upd _ _ _ mu (fun q hq => hp q ((inW q).mpr (.inr (.inr hq)))) j1
          · refine hStd.2 _ _ _ mu (fun e => ?_) j2
            exact hp (a, T.B) ((inW _).mpr (.inl ⟨a, e, rfl⟩)) rfl
          · obtain ⟨o, ho, m⟩ := mu
            exact RwL.other ho m (by simp) (fun z => hp (a, []) ((inW _).mpr (.inr (.inl ⟨a, z, rfl⟩))) rfl) j3
        -- who may own what is pinned
        have ownB : ∀ (a : Addr), (New X.K H a ∨ ∃ i p, nd[i]? = some p ∧ (a ∈ p.2 ∨ (i ∈ T.B ∧ a ∈ p.1))) → ∀ (i : Nat) (p' : List Addr × List Addr), nd1[i]? = some p' → a ∈ p'.1 → i ∈ T.B ∧ ∃ p, nd[i]? = some p ∧ a ∈ p.1 := fun a ha i p' hp' hm => by
          obtain ⟨p, hp, h1, _⟩ := nl.sub i p' hp'
          rcases ha with z | ⟨k, q, hq, z | ⟨hk, z⟩⟩
          · exact ((si.slot i p hp).old a (.inl (h1 a hm)) z).elim
          · by_cases ek : i = k
            · subst ek
              rw [hp] at hq; cases hq
              exact ((si.slot i p hp).ap a (h1 a hm) z).elim
            · exact ((si.sep i k p q hp hq ek a (h1 a hm)).2 z).elim
          · by_cases ek : i = k
            · subst ek
              exact ⟨hk, p, hp, h1 a hm⟩
            · exact ((si.sep i k p q hp hq ek a (h1 a hm)).1 z).elim
        have si2 : SI X.K H₀ A₀ W' τi δ σ nd1 H1 := by
          refine si1.more (fun q hq => ?_) ⟨si1.J, hSt, rI⟩
          rcases (inW q).mp hq with ⟨a, ea, rfl⟩ | ⟨b', hb', rfl⟩ | hq
          · obtain ⟨w1, w2⟩ := hw a ea
            exact .inr ⟨w1, fun i p' hp' hm => (ownB a w2 i p' hp' hm).1⟩
          · refine .inr ⟨RwL.old xs rI b' (.inr hb'), fun i p' hp' hm => ?_⟩
            obtain ⟨hB, p, hp, hm2⟩ := ownB b' (hsI b' hb') i p' hp' hm
            exfalso
            have noim : im = false := by
              cases im with
              | false => rfl
              | true => rw [imI rfl] at hb'; exact nomatch hb'
            rw [noim, Bool.false_or] at hdem
            have hi := List.all_eq_true.mp hdem i hB
            have pe : p'.1 = [] := by
              by_cases cx : ∃ x, τi[i]? = some (some x)
              · obtain ⟨⟨t, a⟩, ex⟩ := cx
                rw [ex] at hi
                have ht : t = .S := of_decide_eq_true hi
                subst ht
                exact nl.shr i p' a hp' ex
              · rw [nl.non i p' hp' fun x ex => cx ⟨x, ex⟩]
            rw [pe] at hm
            exact nomatch hm
          · exact .inl hq
        have hfz' : ∀ q ∈ W'.pn, ∀ i ∈ q.2, i ∈ fz ++ T.B := fun q hq i hi => by
          rcases (inW q).mp hq with ⟨a, ea, rfl⟩ | ⟨b', hb', rfl⟩ | hq
          · exact List.mem_append_right _ hi
          · exact nomatch hi
          · exact List.mem_append_left _ (hfz q hq i hi)
        have shrI : ∀ b ∈ sI, New X.K H₀ b ∨ b ∈ A₀ := fun b hb => by
          rcases hsI b hb with z | ⟨k, q, hq, z | ⟨_, z⟩⟩
          · exact .inl (z.back si.sm)
          · exact (si.slot k q hq).shr b z
          · exact .inl ((si.slot k q hq).new b z).1
        refine ⟨fun i m σ' H' => m = vs.length - i ∧ i ≤ vs.length ∧ ∃ δ' nd', SI X.K H₀ A₀ W' τi δ' σ' nd' H' ∧ FinS X H₀ A₀ W c (forL (fun x δ => lft δ (setTg tg x δ) (sev b)) (xs.drop i) δ') (some τi) D, ⟨vs.length, by omega, Nat.zero_le _, δ, nd1, si2, hf⟩, fun i m σ2 H2 hW => ?_⟩
        obtain ⟨rfl, hi, δ2, nd2, si3, hf2⟩ := hW
        by_cases hlt : i < vs.length
        · have hxl : i < xs.length := by omega
          refine .inr ⟨hJ.go i _ si3.J.2.1 hlt, fun σ' H' => ∃ δ' nd', SI X.K H₀ A₀ W' τi δ' σ' nd' H' ∧ FinS X H₀ A₀ W c (forL (fun x δ => lft δ (setTg tg x δ) (sev b)) (xs.drop (i + 1)) δ') (some τi) D, fun σ' H' hN => ⟨vs.length - (i + 1), by omega, rfl, hlt, hN⟩, fun x H' hy => ?_⟩
          obtain ⟨rfl, hxv⟩ := hJ.yld i _ x _ si3.J.2.1 hy hlt
          rw [List.drop_eq_getElem_cons hxl] at hf2
          have hf2 : FinS X H₀ A₀ W c ((lft δ2 (setTg tg xs[i] δ2) (sev b)).thn (forL (fun x δ => lft δ (setTg tg x δ) (sev b)) (xs.drop (i + 1)))) (some τi) D := hf2
          cases qs : setTg tg xs[i] δ2 with
          | ex x => exact (setTg_ex qs).elim
          | no => rw [qs] at hf2; exact False.elim hf2
          | ok δ3 =>
            rw [qs] at hf2
            have hf2 : FinS X H₀ A₀ W c ((sev b δ3).thn (forL (fun x δ => lft δ (setTg tg x δ) (sev b)) (xs.drop (i + 1)))) (some τi) D := hf2
            obtain ⟨v1, o1, s1, ev1, rv1, l1, l2⟩ := si3.J.2.2.item (i := i) (d := xs[i]) (by simp [hxl])
            have eo1 : o1 = [] := List.sublist_nil.mp l1
            subst eo1
            have exv : v1 = x := by rw [hxv] at ev1; exact (Option.some.inj ev1).symm
            subst exv
            have A : ApartN X.K H₀ A₀ W' nd2 [] s1 := ⟨List.nodup_nil, by simp, by simp, by simp, by simp, fun b hb => shrI b (l2.subset hb), fun b hb j p hj hm => nomatch (si3.pin (b, []) ((inW _).mpr (.inr (.inl ⟨b, l2.subset hb, rfl⟩)))).2 j p hj hm⟩
            have body : ∀ σ' nd', SI X.K H₀ A₀ W' (setTy tg (some (if im = true then (.F, false) else (.S, T.a))) τi) δ3 σ' nd' H' → WSs X pbody { D with nx := fun σ' H' => ∃ δ' nd', SI X.K H₀ A₀ W' τi δ' σ' nd' H' ∧ FinS X H₀ A₀ W c (forL (fun x δ => lft δ (setTg tg x δ) (sev b)) (xs.drop (i + 1)) δ') (some τi) D, ct := fun σ' H' => ∃ δ' nd', SI X.K H₀ A₀ W' τi δ' σ' nd' H' ∧ FinS X H₀ A₀ W c (forL (fun x δ => lft δ (setTg tg x δ) (sev b)) (xs.drop (i + 1)) δ') (some τi) D, bk := D.nx } σ' H' := fun σ' nd' si4 => by
              refine ihb.all G ok' hfz' si4 pbody hcb rb eb _ ?_
              cases q : sev b δ3 with
              | nx δ' =>
                rw [q] at hf2
                intro τ1 e1 σ' nd' H' si'
                subst e1
                obtain ⟨nd4, si4, _⟩ := si'.weak hle
                exact ⟨δ', nd4, si4, hf2⟩
              | rt d => rw [q] at hf2; exact hf2
              | ex x δ' =>
                rw [q] at hf2
                obtain ⟨Wx, tk, hW⟩ := hf2
                exact ⟨Wx, tk, fun σ' nd' H' cls dx si' ex => hW σ' nd' H' cls dx (si'.less (fun q hq => (inW q).mpr (.inr (.inr hq))) fun j => j.1) ex⟩
              | no => rw [q] at hf2; exact hf2
            cases im with
            | true =>
              have imx : imm xs[i] = true := by
                have key : ∀ (l : List PyData) (i : Nat) (hi : i < l.length), immL l = true → imm l[i] = true := by
                  intro l
                  induction l with
                  | nil => intro i hi; exact absurd hi (by simp)
                  | cons d l ihl =>
                    intro i hi h
                    rw [immL, Bool.and_eq_true] at h
                    cases i with
                    | zero => exact h.1
                    | succ i => exact ihl i (by simpa using hi) h.2
                exact key xs i hxl him
              obtain ⟨_, es, rF⟩ := Rw.imm _ imx rv1
              subst es
              refine wg_put (t := .F) (a := false) G.G hct qs (rF .F) A (fun _ => by simp) si3 fun σ' nd' si4 => ?_
              cases tg <;> exact body σ' nd' si4
            | false =>
              refine wg_put (t := .S) (a := T.a) G.G hct qs rv1 A (fun e b hb => haI e b (l2.subset hb)) si3 fun σ' nd' si4 => ?_
              cases tg <;> exact body σ' nd' si4
        · have ei : i = vs.length := by omega
          subst ei
          refine .inl ⟨hJ.stop _ si3.J.2.1, ?_⟩
          rw [List.drop_of_length_le (by omega)] at hf2
          exact hf2 τi rfl σ2 nd2 H2 (si3.less (fun q hq => (inW q).mpr (.inr (.inr hq))) fun j => j.1)
  | _ => exact absurd hc (by simp [cs1])
end
end VS
set_option Elab.async false
set_option linter.all false
set_option maxRecDepth 100000
namespace VS
open PySem PySem.Spec L2
open PyProof.Rows hiding St
section
variable {C : Ctx}
theorem plain_set {o i : Expr} {pos : Pos} {env : Env} (h : plainX i = true) : ∀ v, assign (.Subscript o i pos) env v = (do
      let ov ← holding [v] (eval o env)
      let iv ← holding [v, ov] (eval i env)
      standAt pos
      holding [v, ov, iv] (setItem ov iv v)
      release [v, ov, iv] []) := by
  cases i <;> first | (intro _; rfl) | exact absurd (show false = true from h) (by decide)
theorem pthD_len {δ : Sl} : ∀ (p : E) (ks : List PyData), isPth p = true → pthD p δ = .ok ks → ks.length = pthN p
  | .sl i, ks, _, e => by cases e; rfl
  | .ix q i, ks, hp, e => by
    obtain ⟨k1, h1, e⟩ := R.ok_of (show (pthD q δ >>= fun ks => ev i δ >>= fun k => R.ok (ks ++ [k])) = .ok ks from e)
    obtain ⟨k2, h2, e⟩ := R.ok_of e
    cases e
    rw [List.length_append, pthD_len q k1 hp h1]; rfl
theorem snds_setI {tf : Bool} {p i e : E} (hokp : okE C p) (hoki : okE C i) (hok : okE C e) : SndS C (.setI tf p i e) := by
  refine SndS.of (fun {S X H₀ A₀ W fz c τ δ σ nd H} G ok hfz si st hc r hr D h => ?_) (fun _ st => by cases st <;> rfl)
  have ih := snd e hok
  have ihi := snd i hoki
  cases st with
  | Assign tgs pe pos =>
    rcases tgs with _ | ⟨ptg, _ | ⟨_, _⟩⟩ <;> try (first | exact absurd (show false = true from hc) Bool.false_ne_true | (cases ptg <;> exact absurd (show false = true from hc) Bool.false_ne_true))
    cases ptg with
    | Subscript po pi p' =>
      have hc1 : (isPth p && ck C.nb p S false po && plainX pi && ck C.nb i S false pi && ck C.nb e S false pe) = true := hc
      simp only [Bool.and_eq_true, decide_eq_true_eq] at hc1
      obtain ⟨⟨⟨⟨hpth, hcp⟩, hpl⟩, hci⟩, hce⟩ := hc1
      obtain ⟨hx, hr⟩ := ifB_some (show ifB (leTys τ c.τx && ptyOk p τ && (ty i τ).isSome && decide (pthI p ∉ fz)) ((ty e τ).bind fun T => (muT tf (pthI p) (pthN p) T τ).bind fun τ' => some (some τ')) = some r from hr)
      simp only [Bool.and_eq_true, decide_eq_true_eq] at hx
      obtain ⟨⟨⟨hlx, hpty⟩, hti⟩, hnf⟩ := hx
      obtain ⟨Ti, eTi⟩ := Option.isSome_iff_exists.mp hti
      obtain ⟨T, eT, hr⟩ := Option.bind_eq_some_iff.mp hr
      obtain ⟨τ', eM, hr⟩ := Option.bind_eq_some_iff.mp hr
      cases hr
      have h0 := FinS.lft (τ := τ) ok si hlx (show FinS X H₀ A₀ W c (lft δ (ev e δ) fun y => lft δ (nox (pthD p δ)) fun ks => lft δ (nox (ev i δ)) fun k => lft δ (slotD δ (pthI p)) fun d => lft δ (nox (modG tf (setD k y) ks d)) fun d' => .nx (δ.set (pthI p) (some d'))) _ D from h)
      have hsw : swapsWithSole [.Subscript po pi p'] pe pos.line X.env = pure false := by cases pe <;> rfl
      refine WS.kf (WS.of (ps_asg pe_w (pg_sub pe_w pe_w set_list (plain_set hpl)) hsw sw_sub) ?_)
      refine ih.hE (si.at G) pe hce T eT _ (h0.imp fun y H1 e1 kf1 hf v vl => ?_)
      obtain ⟨ks, eks, hf⟩ := nox_ok hf
      obtain ⟨k, ek, hf⟩ := nox_ok hf
      have hd : ∃ d, δ[pthI p]? = some (some d) ∧ FinS X H₀ A₀ W c (lft δ (nox (modG tf (setD k y) ks d)) fun d' => .nx (δ.set (pthI p) (some d'))) (some τ') D := by
        unfold slotD at hf
        split at hf
        · rename_i d hd; exact ⟨d, hd, hf⟩
        · exact False.elim hf
      obtain ⟨d, hd, hf⟩ := hd
      obtain ⟨d', emod, hf⟩ := nox_ok hf
      obtain ⟨t, aa, te0, et, hte0, htf0⟩ := muT_slot eM
      have si1 := si.grow ok e1 kf1
      obtain ⟨v0, o0, s0, hv, hnd, hrw, _⟩ := si1.rep _ d t aa hd et
      obtain ⟨a, hpa⟩ := path_ex ks hrw emod
      rw [← pthD_len p ks hpth eks] at eM hte0
      have hfz' : ∀ q ∈ W.pn, pthI p ∉ q.2 := fun q hq z => hnf (hfz q hq _ z)
      refine we_path p hpth hokp (si1.at G) po hcp hpty hv eks ⟨_, hpa⟩ fun w H2 e2 kf2 hw => ?_
      have ew := PathV.uniq kf2 ks hw (hpa.same e2 ks)
      subst ew
      have si2 := si1.grow ok e2 kf2
      refine ihi.hE (si2.at G) pi hci Ti eTi _ ?_
      rw [ek]
      intro H3 e3 kf3 x vx
      obtain ⟨_, _, _, rx⟩ := vx.rw
      obtain ⟨on, sn, rl, no, hno, hsn, ha⟩ := vl.nm si.sm
      obtain ⟨te, xs, ys, vsl, ol, sl, hle, hfx, hat, hrl, m1, m2, m3, m4, m5, m6, m7, fin⟩ := SI.mutate (T := T) ok si ((e1.trans e2).trans e3) kf3 no hno hsn ha eM hd hv hfz' emod (hw.same e3 ks)
      have hg : ∀ τ1, some τ' = some τ1 → ∀ σ' nd' H', SI X.K H₀ A₀ W τ1 (δ.set (pthI p) (some d')) σ' nd' H' → D.nx σ' H' := hf
      unfold setD at hfx
      cases hj : stepD xs k with
      | none => rw [hj] at hfx; cases hfx
      | some j =>
        rw [hj] at hfx
        have hfx : R.ok (xs.set j y) = .ok ys := hfx
        cases hfx
        cases k with
        | int n =>
          rw [rw_int] at rx
          obtain ⟨rfl, _⟩ := rx
          have hj : ixN xs.length n = some j := hj
          refine ⟨a, vsl, n, j, rfl, rfl, hat, by rw [hrl.length]; exact hj, fun kf4 => ?_⟩
          obtain ⟨p1, q1, rw2, l⟩ := Rw.less y hle (Rw.same (e2.trans e3) y rl)
          have mu : Mut (some (HO.lst vsl)) := trivial
          have ap1 : a ∉ p1 := fun z => m3 (l.omem z)
          have aq1 : a ∉ q1 := fun z => (l.mem z).elim m3 m4
          by_cases hjl : j < xs.length
          · obtain ⟨w0, oA, ox, oB, sA, sx, sB, vA, vB, rfl, rfl, hw0, rfl, rfl, r1, r2, r3⟩ := hrl.setAt (j := j) (x := xs[j]) (by simp [hjl])
            have n1 := List.nodup_append.mp m5
            have n2 := List.nodup_append.mp n1.2.1
            have rA := RwL.other (w := HO.lst ((vA ++ w0 :: vB).set vA.length v)) hat mu (fun z => m1 (by simp [z])) (fun z => m2 (by simp [z])) r1
            have rB := RwL.other (w := HO.lst ((vA ++ w0 :: vB).set vA.length v)) hat mu (fun z => m1 (by simp [z])) (fun z => m2 (by simp [z])) r3
            have rX := Rw.other (w := HO.lst ((vA ++ w0 :: vB).set vA.length v)) hat mu ap1 aq1 rw2
            have rr : RwL X.K (upd H3 a (.lst ((vA ++ w0 :: vB).set vA.length v))) (xs.set vA.length y) te ((vA ++ w0 :: vB).set vA.length v) (oA ++ (p1 ++ oB)) (sA ++ (q1 ++ sB)) := by
              rw [set_split (x := xs[vA.length]) (by simp [hjl])]
              have ev : (vA ++ w0 :: vB).set vA.length v = vA ++ v :: vB := by simp
              rw [ev] at rA rB rX ⊢
              exact rA.app (rwl_cons.mpr ⟨v, vB, p1, q1, oB, sB, rfl, rfl, rfl, rX, rB⟩)
            have c1 : (oA ++ (p1 ++ oB)).Nodup := by
              refine List.nodup_append.mpr ⟨n1.1, List.nodup_append.mpr ⟨l.nodup no, n2.2.1, fun b hb c hc e => ?_⟩, fun b hb c hc e => ?_⟩
              · subst e
                exact (m6 b (by simp [hc])).2.1 (l.omem hb)
              · subst e
                rcases List.mem_append.mp hc with hc | hc
                · exact (m6 b (by simp [hb])).2.1 (l.omem hc)
                · exact n1.2.2 b hb b (by simp [hc]) rfl
            have c2 : ∀ b ∈ oA ++ (p1 ++ oB), b ∈ oA ++ (ox ++ oB) ∨ b ∈ on := fun b hb => by
              rcases List.mem_append.mp hb with hb | hb
              · exact .inl (by simp [hb])
              · rcases List.mem_append.mp hb with hb | hb
                · exact .inr (l.omem hb)
                · exact .inl (by simp [hb])
            have c3 : ∀ b ∈ sA ++ (q1 ++ sB), b ∈ sA ++ (sx ++ sB) ∨ b ∈ sn ∨ b ∈ on := fun b hb => by
              rcases List.mem_append.mp hb with hb | hb
              · exact .inl (by simp [hb])
              · rcases List.mem_append.mp hb with hb | hb
                · exact .inr (l.mem hb).symm
                · exact .inl (by simp [hb])
            have c4 : ∀ b ∈ oA ++ (p1 ++ oB), b ∉ sA ++ (q1 ++ sB) := by
              have sOut : ∀ b, b ∈ oA ∨ b ∈ oB → b ∉ q1 := fun b hb hs => by
                have bo : b ∈ oA ++ (ox ++ oB) := by rcases hb with z | z <;> simp [z]
                exact (l.mem hs).elim (m6 b bo).2.1 (m6 b bo).2.2
              intro b hb hs
              rcases List.mem_append.mp hb with hb | hb
              · rcases List.mem_append.mp hs with hs | hs
                · exact (m6 b (by simp [hb])).1 (by simp [hs])
                · rcases List.mem_append.mp hs with hs | hs
                  · exact sOut b (.inl hb) hs
                  · exact (m6 b (by simp [hb])).1 (by simp [hs])
              · rcases List.mem_append.mp hb with hb | hb
                · rcases List.mem_append.mp hs with hs | hs
                  · exact m7 b (l.omem hb) (by simp [hs])
                  · rcases List.mem_append.mp hs with hs | hs
                    · exact l.apart no (fun b hb => (hno b hb).2) b hb hs
                    · exact m7 b (l.omem hb) (by simp [hs])
                · rcases List.mem_append.mp hs with hs | hs
                  · exact (m6 b (by simp [hb])).1 (by simp [hs])
                  · rcases List.mem_append.mp hs with hs | hs
                    · exact sOut b (.inr hb) hs
                    · exact (m6 b (by simp [hb])).1 (by simp [hs])
            obtain ⟨nd', si'⟩ := fin _ _ _ kf4 rr c1 c2 c3 c4
            exact hg τ' rfl σ nd' _ si'
          · have e1 : xs.set j y = xs := List.set_eq_of_length_le (by omega)
            have e2 : vsl.set j v = vsl := List.set_eq_of_length_le (by rw [hrl.length]; omega)
            rw [e2] at kf4 ⊢
            rw [e1] at fin
            obtain ⟨nd', si'⟩ := fin vsl ol sl kf4 (RwL.other hat mu m1 m2 hrl) m5 (fun b hb => .inl hb) (fun b hb => .inl hb) (fun b hb => (m6 b hb).1)
            exact hg τ' rfl σ nd' _ si'
        | _ => cases hj
    | _ => exact absurd hc (by simp [cs1])
  | _ => exact absurd hc (by simp [cs1])
/-- every tree of statements is sound -/
theorem snds : ∀ (s : S), okS C s → SndS C s
  | .nil, _ => snds_nil
  | .seq a b, h => snds_seq (snds a h.1) (snds b h.2)
  | .asg tg e, h => snds_asg h
  | .par i j es, h => snds_par (snd es h)
  | .mu .app tf p es, h => snds_app h.1 h.2
  | .setI tf p i e, h => snds_setI h.1 h.2.1 h.2.2
  | .ext tf p e, h => snds_ext h.1 h.2
  | .popL im i j, _ => snds_popL
  | .apo i j e, h => snds_apo h
  | .ret e, h => snds_ret (snd e h)
  | .retS i, _ => snds_retS
  | .ife c a b, h => snds_ife (snd c h.1) (snds a h.2.1) (snds b h.2.2)
  | .forE tg it im τi b, h => snds_for (snd it h.1) (snds b h.2)
  | .whi f τi c b, h => snds_whi (snd c h.1) (snds b h.2)
  | .drop e, h => snds_drop (snd e h)
end
end VS
set_option Elab.async false
set_option linter.all false
set_option maxRecDepth 100000
namespace VS
open PySem PySem.Spec L2
open PyProof.Rows hiding St
/-! ### defs -/
def fnD (s : S) (n m : Nat) (ds : List D) : R D := match decide (ds.length = m) with
  | true => match sev s (ds.map some ++ List.replicate (n - m) none) with
    | .nx _ => .ok .none
    | .rt d => .ok d
    | .ex x _ => .ex x
    | .no => .no
  | false => .no
def par0 (m n : Nat) : Tys := List.replicate m (some (.S, true)) ++ List.replicate (n - m) (some (.F, false))
def fuI (i : Nat) (δ : Sl) : Nat := match slotD δ i with
  | .ok (.int b) => b.toNat + 1
  | _ => 0
def celS (scope : Scope) : Str → Bool := fun x => scope.names.lookup x == some .cell
abbrev Ctx.lv (C : Ctx) (k : Nat) : Ctx := { C with k := k }
theorem WSs.kf0 {X : Cx} {st : List Stmt} {D : Ends} {σ : St} {H : Hp} (h : KF X.K H → WSs X st D σ H) : WSs X st D σ H := fun pins s I => h (kf_inv I) pins s I
theorem fnD_len {s : S} {n m : Nat} {ds : List D} (h : fnD s n m ds ≠ .no) : ds.length = m := by
  unfold fnD at h
  by_cases e : ds.length = m
  · exact e
  · rw [decide_eq_false e] at h
    exact absurd rfl h
theorem keep0 : KeepOk ⟨[], fun _ => True⟩ := ⟨fun _ _ _ h => h, fun _ _ _ _ _ h => h⟩
theorem fn_ok {C : Ctx} {x : Str} {args : Arguments} {body : List Stmt} {scope : Scope} {f : Addr} {fd : FuncData} {N ps : List Str} {t : Ty} {s : S} {r : Option Tys} (F : FunD C.K x x args body scope [] [] f fd) (Sc : FnScope N ps scope) (hok : okS C s)
    (hle : ps.length ≤ N.length) (hck : csk C.nb s ⟨N, scope, celS scope⟩ body = true) (hty : sty ⟨t, []⟩ s [] (par0 ps.length N.length) = some r) :
    FnOk C.P C.w C.K C.mg C.base (L2.CX C.P C.w) (C.k + 1) f fd ps (spF C.K C.mg ps.length (fnD s N.length ps.length) t) := by
  refine F.ok Sc (fun vs H Q E h => ?_) (fun cdv A outer s0 H vs Q E hr h => ⟨_, pss_w, ?_⟩)
  · obtain ⟨ds, sh, h1, h2, _⟩ := h
    rw [← h1]; exact h2.length
  · obtain ⟨ds, sh, h1, h2, h3⟩ := h
    refine WSs.kf0 fun kf => ?_
    have kf : KF C.K H := kf
    have G : GdS C ⟨N, scope, celS scope⟩ (cxOf (L2.CX C.P C.w) C.P C.w C.K C.mg C.base N x scope f cdv A outer s0 H E) :=
      ⟨⟨rfl, rfl, rfl, rfl, rfl, rfl, hr, rfl, rfl, Sc.nd, fun _ _ => rfl⟩, passes_of (K := fun e s' => L2.CX C.P C.w outer H s0 E e s') rfl, Sc.kind⟩
    -- the parameters' nodes
    obtain ⟨nl, hnl, hP⟩ := exists_list (P := fun i (p : List Addr × List Addr) => p.1 = [] ∧ ∃ d v, ds[i]? = some d ∧ vs[i]? = some v ∧ Rw C.K H d .S v [] p.2 ∧ ∀ b ∈ p.2, b ∈ sh) ds.length fun i hi => by
      obtain ⟨v, o', s', e1, r1, l1, l2⟩ := h2.item (i := i) (d := ds[i]) (by simp [hi])
      have eo : o' = [] := List.sublist_nil.mp l1
      subst eo
      exact ⟨([], s'), rfl, ds[i], v, by simp [hi], e1, r1, fun b hb => l2.subset hb⟩
    have lenV : vs.length = ds.length := h2.length
    have look : ∀ (i : Nat) (p : List Addr × List Addr), (nl ++ List.replicate (N.length - ps.length) ([], []))[i]? = some p → (i < ds.length ∧ nl[i]? = some p) ∨ p = ([], []) := fun i p hi => by
      by_cases hl : i < nl.length
      · rw [List.getElem?_append_left hl] at hi
        exact .inl ⟨by omega, hi⟩
      · rw [List.getElem?_append_right (by omega)] at hi
        have := List.mem_of_getElem? hi
        exact .inr (List.eq_of_mem_replicate this)
    have si : SI C.K H sh ⟨[], fun _ => True⟩ (par0 ps.length N.length) (ds.map some ++ List.replicate (N.length - ps.length) none) (L2.start N vs) (nl ++ List.replicate (N.length - ps.length) ([], [])) H := by
      refine ⟨kf, Same.refl H, ?_, ?_, fun i d t a e1 e2 => ?_, fun i p hi => ?_, fun i j p q hi hj ne b hb => ?_, fun q hq => by simp at hq, trivial⟩
      · unfold L2.start
        simp only [List.length_append, List.length_map, List.length_replicate, lenV, h1]
      · simp only [List.length_append, List.length_map, List.length_replicate, hnl]
      · have hi : i < ds.length := by
          by_cases c : i < ds.length
          · exact c
          · rw [List.getElem?_append_right (by rw [List.length_map]; omega)] at e1
            have := List.mem_of_getElem? e1
            exact absurd (List.eq_of_mem_replicate this) nofun
        have e1' : ds[i]? = some d := by
          rw [List.getElem?_append_left (by rw [List.length_map]; exact hi), List.getElem?_map] at e1
          cases q : ds[i]? with
          | none => rw [q] at e1; cases e1
          | some y => rw [q] at e1; cases e1; rfl
        have ht : t = .S ∧ a = true := by
          unfold par0 at e2
          rw [List.getElem?_append_left (by rw [List.length_replicate]; omega)] at e2
          have := List.mem_of_getElem? e2
          have := List.eq_of_mem_replicate this
          cases this
          exact ⟨rfl, rfl⟩
        obtain ⟨rfl, rfl⟩ := ht
        have hnl' : nl[i]? = some nl[i] := by simp [hnl, hi]
        obtain ⟨hp1, d', v, k1, k2, k3, k4⟩ := hP i _ hnl'
        rw [e1'] at k1
        cases k1
        refine ⟨v, [], nl[i].2, ?_, ?_, k3, nofun⟩
        · unfold L2.start
          rw [List.getElem?_append_left (by rw [List.length_map]; omega), List.getElem?_map, k2]; rfl
        · rw [List.getElem?_append_left (by omega), hnl', ← hp1]
      · rcases look i p hi with ⟨hl, z⟩ | rfl
        · obtain ⟨hp1, d', v, k1, k2, k3, k4⟩ := hP i p z
          refine ⟨by rw [hp1]; exact List.nodup_nil, by rw [hp1]; simp, by rw [hp1]; simp, fun b hb => .inr (k4 b hb), fun b hb => ?_⟩
          rw [hp1] at hb
          exact Rw.old d' k3 b (hb.imp (fun z => nomatch z) id)
        · exact ⟨by simp, by simp, by simp, by simp, by simp⟩
      · rcases look i p hi with ⟨hl, z⟩ | rfl
        · obtain ⟨hp1, _⟩ := hP i p z
          rw [hp1] at hb; exact nomatch hb
        · exact nomatch hb
    refine (snds s hok).all (W := ⟨[], fun _ => True⟩) (fz := []) (c := ⟨t, []⟩) G keep0 (by simp) si body hck r hty _ ?_
    unfold fnD at h3
    rw [decide_eq_true h1] at h3
    dsimp only at h3
    cases q : sev s (ds.map some ++ List.replicate (N.length - ps.length) none) with
    | nx δ' =>
      rw [q] at h3
      intro τ1 _ σ' nd' H' si'
      exact h3 .non H' si'.sm si'.kf ⟨[], [], rw_non.mpr ⟨rfl, rfl, rfl⟩, List.nodup_nil, by simp, by simp⟩
    | rt d =>
      rw [q] at h3
      intro v H' sm kf' ⟨o, s', r1, r2, r3, r4⟩
      exact h3 v H' sm kf' ⟨o, s', r1, r2, r3, r4⟩
    | ex y δ' =>
      rw [q] at h3
      refine ⟨fun cls dx _ H' => E cls dx H', takes_of rfl rfl rfl rfl, fun σ' nd' H' cls dx si' ex => ?_⟩
      exact h3 cls dx H' si'.sm si'.kf ex
    | no => rw [q] at h3; exact h3
theorem FnV.up {C : Ctx} {x : Str} {F : List D → R D} {t : Ty} {k : Nat} (h : FnV C x F t) (hk : Nat.ble C.k k = true) : FnV (C.lv k) x F t := by
  obtain ⟨f, fd, ps, j, h1, h2⟩ := h.ex
  exact ⟨f, fd, ps, j, Nat.le_trans h1 (Nat.le_of_ble_eq_true hk), h2⟩
/-- a def of the text -/
theorem FnV.ofD {C : Ctx} {x : Str} {args : Arguments} {body : List Stmt} {scope : Scope} {f : Addr} {fd : FuncData} {N ps : List Str} {t : Ty} {s : S} {r : Option Tys} (F : FunD C.K x x args body scope [] [] f fd) (hm : C.mg x = some (.ref f)) (hb : Binds C.K fd ps [])
    (Sc : FnScope N ps scope) (hok : okS C s) (hle : ps.length ≤ N.length) (hck : csk C.nb s ⟨N, scope, celS scope⟩ body = true) (hty : sty ⟨t, []⟩ s [] (par0 ps.length N.length) = some r) : FnV (C.lv (C.k + 1)) x (fnD s N.length ps.length) t :=
  ⟨f, fd, ps, C.k + 1, Nat.le_refl _, fun _ => fnD_len, fn_ok F Sc hok hle hck hty, hm, F.kp, hb⟩
/-- the law's def -/
def spLaw (K : PySem.W.Frag) : Sp := fun vs H Q _ => ∃ (a : Addr) (ns : List Int), vs = [.ref a] ∧ SqL K H a (ns.map V.int) ∧ ns.length ≤ 63 ∧ ∀ H', Q (.bl true) H'
theorem rw_ns {K : PySem.W.Frag} {H : Hp} : ∀ ns : List Int, RwL K H (ns.map fun i => PyData.int i) .S (ns.map V.int) [] []
  | [] => rwl_nil.mpr ⟨rfl, rfl, rfl⟩
  | n :: ns => rwl_cons.mpr ⟨.int n, _, [], [], [], [], rfl, rfl, rfl, rw_int.mpr ⟨rfl, rfl, rfl⟩, rw_ns ns⟩
theorem law_cx0 {P : Program} {w : World} {K : PySem.W.Frag} {mg : Str → Option Value} {base : Heap} {k : Nat} {f : Addr} {fd : FuncData} {ps : List Str} (F : FnOk P w K mg base (L2.CX P w) k f fd ps (spLaw K)) : FnOk P w K mg base CX0 k f fd ps (spLaw K) where
  len := F.len
  run := fun A outer s H args us vs Q E hr he hb hv hs => codeAny_mono (F.run A outer s H args us vs Q (fun _ _ _ => False) hr he hb hv hs) fun r s' h => by
    cases r with
    | ok fl => cases fl <;> exact h
    | error e =>
      obtain ⟨_, _, _, _, _, _, _, _, _, _, _, _, z⟩ := h
      exact z.elim
theorem law_ok {C : Ctx} {x : Str} {args : Arguments} {body : List Stmt} {scope : Scope} {f : Addr} {fd : FuncData} {N : List Str} {t : Ty} {s : S} {r : Option Tys} (F : FunD C.K x x args body scope [] [] f fd)
    (Sc : FnScope N ["script"] scope) (hok : okS C s) (hle : 1 ≤ N.length) (hck : csk C.nb s ⟨N, scope, celS scope⟩ body = true) (hty : sty ⟨t, []⟩ s [] (par0 1 N.length) = some r)
    (hlaw : ∀ ns : List Int, ns.length ≤ 63 → fnD s N.length 1 [.list (ns.map fun i => PyData.int i)] = .ok (.bool true)) :
    FnOk C.P C.w C.K C.mg C.base CX0 (C.k + 1) f fd ["script"] (spLaw C.K) := by
  refine law_cx0 ((fn_ok F Sc hok hle hck hty).imp fun vs H Q E h => ?_)
  obtain ⟨a, ns, rfl, hS, hlen, q⟩ := h
  refine ⟨[.list (ns.map fun i => PyData.int i)], [a], rfl, RwL.one (rw_lst.mpr ⟨a, _, [], [], rfl, hS, rw_ns ns, rfl, rfl⟩), ?_⟩
  rw [show fnD s N.length (["script"] : List Str).length [.list (ns.map fun i => PyData.int i)] = .ok (.bool true) from hlaw ns hlen]
  intro v H' _ _ ⟨o, s', r1, _⟩
  rw [rw_bl] at r1
  rw [r1.1]
  exact q H'
end VS
set_option Elab.async false
set_option linter.all false
set_option maxRecDepth 100000
namespace VS
open PySem PySem.Spec L2
open PyProof.Rows hiding St
/-! ### reckoning with trees -/
section
variable {α β : Type} {δ δ' : Sl}
@[simp] theorem q_ok (a : α) (f : α → R β) : (R.ok a >>= f) = f a := (rfl)
@[simp] theorem q_no (f : α → R β) : ((R.no : R α) >>= f) = .no := (rfl)
@[simp] theorem q_ex (x : Ex) (f : α → R β) : ((R.ex x : R α) >>= f) = .ex x := (rfl)
@[simp] theorem q_lok (a : α) (f : α → Out) : lft δ (.ok a) f = f a := (rfl)
@[simp] theorem q_lno (f : α → Out) : lft δ .no f = .no := (rfl)
@[simp] theorem q_lex (x : Ex) (f : α → Out) : lft δ (.ex x) f = .ex x δ := (rfl)
@[simp] theorem q_tn (f : Sl → Out) : (Out.nx δ).thn f = f δ := (rfl)
@[simp] theorem q_tr (d : D) (f : Sl → Out) : (Out.rt d).thn f = .rt d := (rfl)
@[simp] theorem q_tx (x : Ex) (f : Sl → Out) : (Out.ex x δ).thn f = .ex x δ := (rfl)
@[simp] theorem q_to (f : Sl → Out) : (Out.no).thn f = .no := (rfl)
@[simp] theorem q_nox (a : α) : nox (R.ok a) = .ok a := (rfl)
@[simp] theorem q_noxn : nox (R.no : R α) = .no := (rfl)
-- slots
@[simp] theorem q_s0 (d : D) (l : Sl) : slotD (some d :: l) 0 = .ok d := (rfl)
@[simp] theorem q_s1 (o : Option D) (l : Sl) (n : Nat) : slotD (o :: l) (n + 1) = slotD l n := (rfl)
@[simp] theorem q_t1 (i : Nat) (d : D) (δ : Sl) : setTg (.one i) d δ = .ok (δ.set i (some d)) := (rfl)
@[simp] theorem q_t2 (is : List Nat) (ds : List D) (δ : Sl) : setTg (.tup is) (.tuple ds) δ = setTgs is ds δ := (rfl)
@[simp] theorem q_t3 (δ : Sl) : setTgs [] [] δ = .ok δ := (rfl)
@[simp] theorem q_t4 (i : Nat) (is : List Nat) (d : D) (ds : List D) (δ : Sl) : setTgs (i :: is) (d :: ds) δ = setTgs is ds (δ.set i (some d)) := (rfl)
@[simp] theorem q_w0 (δ : Sl) : wipeD δ [] = δ := (rfl)
@[simp] theorem q_w1 (δ : Sl) (v : Nat) (vs : List Nat) : wipeD δ (v :: vs) = (wipeD δ vs).set v none := (rfl)
-- expressions
variable {a b c es i lo hi : E}
@[simp] theorem q_sl (j : Nat) : ev (.sl j) δ = slotD δ j := (rfl)
@[simp] theorem q_ki (j : Int) : ev (.k (.int j)) δ = .ok (.int j) := (rfl)
@[simp] theorem q_kb (j : Bool) : ev (.k (.bool j)) δ = .ok (.bool j) := (rfl)
@[simp] theorem q_ks (j : Str) : ev (.k (.str j)) δ = .ok (.str j) := (rfl)
@[simp] theorem q_kn : ev (.k .none) δ = .ok .none := (rfl)
@[simp] theorem q_gl (x : Str) (d : D) : ev (.gl x d) δ = .ok d := (rfl)
@[simp] theorem q_ari (op : Operator) : ev (.ari op a b) δ = ev a δ >>= fun x => ev b δ >>= fun y => ariD op x y := (rfl)
@[simp] theorem q_cat : ev (.cat a b) δ = ev a δ >>= fun x => ev b δ >>= fun y => catD x y := (rfl)
@[simp] theorem q_rep : ev (.rep a b) δ = ev a δ >>= fun x => ev b δ >>= fun y => repD x y := (rfl)
@[simp] theorem q_neg : ev (.neg a) δ = ev a δ >>= negD := (rfl)
@[simp] theorem q_negD (j : Int) : negD (.int j) = .ok (.int (-j)) := (rfl)
@[simp] theorem q_not : ev (.not a) δ = ev a δ >>= boolD >>= fun b => .ok (.bool (!b)) := (rfl)
@[simp] theorem q_and : ev (.and a b) δ = ev a δ >>= boolD >>= fun c => match c with
    | true => ev b δ >>= boolD >>= fun c => .ok (.bool c)
    | false => .ok (.bool false) := (rfl)
@[simp] theorem q_or : ev (.or a b) δ = ev a δ >>= boolD >>= fun c => match c with
    | true => .ok (.bool true)
    | false => ev b δ >>= boolD >>= fun c => .ok (.bool c) := (rfl)
@[simp] theorem q_one : ev (.one a) δ = ev a δ >>= boolD >>= fun c => .ok (.bool c) := (rfl)
@[simp] theorem q_boolD (b : Bool) : boolD (.bool b) = .ok b := (rfl)
@[simp] theorem q_cmp (op : CmpOp) : ev (.cmp op a b) δ = ev a δ >>= fun x => ev b δ >>= fun y => cmpD op x y >>= fun c => .ok (.bool c) := (rfl)
@[simp] theorem q_chain (o1 o2 : CmpOp) : ev (.chain o1 o2 a b c) δ = ev a δ >>= fun x => ev b δ >>= fun y => cmpD o1 x y >>= fun r => match r with
    | true => ev c δ >>= fun z => cmpD o2 y z >>= fun r => .ok (.bool r)
    | false => .ok (.bool false) := (rfl)
@[simp] theorem q_ife : ev (.ife c a b) δ = ev c δ >>= boolD >>= fun r => match r with
    | true => ev a δ
    | false => ev b δ := (rfl)
@[simp] theorem q_tup : ev (.tup es) δ = evl es δ >>= fun ds => if ds.length ≤ sizeLine then .ok (.tuple ds) else .no := (rfl)
@[simp] theorem q_lst : ev (.lst es) δ = evl es δ >>= fun ds => if ds.length ≤ sizeLine then .ok (.list ds) else .no := (rfl)
@[simp] theorem q_ix : ev (.ix a i) δ = ev a δ >>= fun x => ev i δ >>= fun y => ixD x y := (rfl)
@[simp] theorem q_slc : ev (.slc a lo hi) δ = ev a δ >>= fun x => evo lo δ >>= fun l => evo hi δ >>= fun h => slcD x l h := (rfl)
@[simp] theorem q_call (x : Str) (F : List D → R D) (t : Ty) : ev (.call x F t es) δ = evl es δ >>= F := (rfl)
@[simp] theorem q_blt (b : BI) : ev (.blt b es) δ = evl es δ >>= bltD b := (rfl)
@[simp] theorem q_isi (T : TN) : ev (.isi T a) δ = ev a δ >>= isiD T := (rfl)
@[simp] theorem q_rng1 : ev (.rng1 a) δ = ev a δ >>= intD >>= fun j => rngD 0 j := (rfl)
@[simp] theorem q_rng2 : ev (.rng2 a b) δ = ev a δ >>= intD >>= fun i => ev b δ >>= intD >>= fun j => rngD i j := (rfl)
@[simp] theorem q_intD (j : Int) : intD (.int j) = .ok j := (rfl)
@[simp] theorem q_cI : ev (.cI a) δ = ev a δ >>= fun d => if imm d = true then .ok d else .no := (rfl)
@[simp] theorem q_cL : ev (.cL a) δ = ev a δ >>= fun d => match d with
    | .list ds => if immL ds = true then .ok (.list ds) else .no
    | _ => .no := (rfl)
@[simp] theorem q_nil : evl .nil δ = .ok [] := (rfl)
@[simp] theorem q_cons : evl (.cons a es) δ = ev a δ >>= fun d => evl es δ >>= fun ds => .ok (d :: ds) := (rfl)
@[simp] theorem q_nop : evo .nop δ = .ok none := (rfl)
@[simp] theorem q_prt : evo (.prt a) δ = ev a δ >>= intD >>= fun j => .ok (some j) := (rfl)
@[simp] theorem q_cnop : evc .nop δ = .ok true := (rfl)
@[simp] theorem q_cprt : evc (.prt a) δ = ev a δ >>= boolD := (rfl)
@[simp] theorem q_itL (xs : List D) : iterD (.list xs) = .ok xs := (rfl)
@[simp] theorem q_itT (xs : List D) : iterD (.tuple xs) = .ok xs := (rfl)
-- the operators
@[simp] theorem q_ii (op : Operator) (i j : Int) : ariD op (.int i) (.int j) = aOp op i j := (rfl)
@[simp] theorem q_add (i j : Int) : aOp .Add i j = .ok (.int (i + j)) := (rfl)
@[simp] theorem q_sub (i j : Int) : aOp .Sub i j = .ok (.int (i - j)) := (rfl)
theorem q_mul {i j : Int} (h : mulOk i j) : aOp .Mult i j = .ok (.int (i * j)) := if_pos h
theorem q_div {i j : Int} (h : 0 < j) (h2 : j.natAbs.log2 < 9000) : aOp .FloorDiv i j = .ok (.int (i / j)) := if_pos ⟨h, h2⟩
theorem q_mod {i j : Int} (h : 0 < j) : aOp .Mod i j = .ok (.int (i % j)) := if_pos h
@[simp] theorem q_lt (i j : Int) : cmpD .Lt (.int i) (.int j) = .ok (decide (i < j)) := (rfl)
@[simp] theorem q_le (i j : Int) : cmpD .LtE (.int i) (.int j) = .ok (decide (i ≤ j)) := (rfl)
@[simp] theorem q_gt (i j : Int) : cmpD .Gt (.int i) (.int j) = .ok (decide (j < i)) := (rfl)
@[simp] theorem q_ge (i j : Int) : cmpD .GtE (.int i) (.int j) = .ok (decide (j ≤ i)) := (rfl)
@[simp] theorem q_eq (x y : D) : cmpD .Eq x y = eqD x y := (rfl)
@[simp] theorem q_ne (x y : D) : cmpD .NotEq x y = notR (eqD x y) := (rfl)
@[simp] theorem q_notR (b : Bool) : notR (.ok b) = .ok (!b) := (rfl)
@[simp] theorem q_is (x : D) : cmpD .Is x .none = .ok (isNonD x) := (rfl)
@[simp] theorem q_isnot (x : D) : cmpD .IsNot x .none = .ok (!isNonD x) := (rfl)
@[simp] theorem q_eqi (i j : Int) : eqD (.int i) (.int j) = .ok (decide (i = j)) := by
  have h1 : SeqAt.shaped (.int i) = true := rfl
  have h2 : SeqAt.shaped (.int j) = true := rfl
  unfold eqD
  rw [if_pos ⟨h1, h2⟩]
  show R.ok (i == j) = _
  congr 1
@[simp] theorem q_ci (i : Int) : imm (.int i) = true := (rfl)
@[simp] theorem q_cb (i : Bool) : imm (.bool i) = true := (rfl)
@[simp] theorem q_cs (i : Str) : imm (.str i) = true := (rfl)
@[simp] theorem q_cn : imm .none = true := (rfl)
@[simp] theorem q_ct (l : List D) : imm (.tuple l) = immL l := (rfl)
@[simp] theorem q_c0 : immL [] = true := (rfl)
@[simp] theorem q_c1 (d : D) (l : List D) : immL (d :: l) = (imm d && immL l) := (rfl)
theorem immL_all {l : List D} (h : ∀ d ∈ l, imm d = true) : immL l = true := by
  induction l with
  | nil => rfl
  | cons d l ih => rw [immL, h d List.mem_cons_self, ih fun x hx => h x (List.mem_cons_of_mem _ hx)]; rfl
@[simp] theorem q_blt1 (b : BI) (d : D) : bltD b [d] = blt1 b d := (rfl)
@[simp] theorem q_blt2 (b : BI) (d e : D) : bltD b [d, e] = blt2 b d e := (rfl)
@[simp] theorem q_lenL (l : List D) : blt1 .len (.list l) = .ok (.int l.length) := (rfl)
@[simp] theorem q_lenT (l : List D) : blt1 .len (.tuple l) = .ok (.int l.length) := (rfl)
@[simp] theorem q_abs (i : Int) : blt1 .abs (.int i) = .ok (.int (if i < 0 then -i else i)) := (rfl)
@[simp] theorem q_int (i : Int) : blt1 .int (.int i) = .ok (.int i) := (rfl)
@[simp] theorem q_intb (i : Bool) : blt1 .int (.bool i) = .ok (.int (if i then 1 else 0)) := (rfl)
@[simp] theorem q_isnN : isNonD .none = true := (rfl)
@[simp] theorem q_isnI (i : Int) : isNonD (.int i) = false := (rfl)
@[simp] theorem q_isnL (l : List D) : isNonD (.list l) = false := (rfl)
@[simp] theorem q_isnT (l : List D) : isNonD (.tuple l) = false := (rfl)
@[simp] theorem q_slcL (l : List D) (lo hi : Option Int) : slcD (.list l) lo hi = .ok (.list (cutD l lo hi)) := (rfl)
-- statements
variable {s t : S}
@[simp] theorem q_snil : sev .nil δ = .nx δ := (rfl)
@[simp] theorem q_sseq : sev (.seq s t) δ = (sev s δ).thn (sev t) := (rfl)
@[simp] theorem q_sasg (tg : Tg) : sev (.asg tg a) δ = lft δ (ev a δ) fun d => lft δ (setTg tg d δ) .nx := (rfl)
@[simp] theorem q_spar (j k : Nat) : sev (.par j k es) δ = lft δ (evl es δ) fun ds => lft δ (setTgs [j, k] ds δ) .nx := (rfl)
@[simp] theorem q_sret : sev (.ret a) δ = lft δ (ev a δ) .rt := (rfl)
@[simp] theorem q_sretS (j : Nat) : sev (.retS j) δ = lft δ (slotD δ j) .rt := (rfl)
@[simp] theorem q_sife : sev (.ife a s t) δ = lft δ (ev a δ >>= boolD) fun r => match r with
    | true => sev s δ
    | false => sev t δ := (rfl)
@[simp] theorem q_sdrop : sev (.drop a) δ = lft δ (ev a δ) fun _ => .nx δ := (rfl)
@[simp] theorem q_sfor (tg : Tg) (im : Bool) (τ : Tys) : sev (.forE tg a im τ s) δ = lft δ (ev a δ >>= iterD) fun xs => match (!im || immL xs) with
    | true => forL (fun x δ => lft δ (setTg tg x δ) (sev s)) xs δ
    | false => .no := (rfl)
@[simp] theorem q_swhi (f : Sl → Nat) (τ : Tys) : sev (.whi f τ a s) δ = whL (fun δ => ev a δ >>= boolD) (sev s) (f δ) δ := (rfl)
@[simp] theorem q_app (j : Nat) (tf : Bool) : sev (.mu .app tf (.sl j) es) δ = lft δ (slotD δ j) fun d => lft δ (nox (modG tf .ok [] d)) fun _ => lft δ (evl es δ) fun ds => lft δ (nox (modG tf (mop .app ds) [] d)) fun d' => .nx (δ.set j (some d')) := (rfl)
@[simp] theorem q_modL (tf : Bool) (f : List D → R (List D)) (l : List D) : modG tf f [] (.list l) = f l >>= fun ys => .ok (.list ys) := (rfl)
@[simp] theorem q_mopA (d : D) (l : List D) : mop .app [d] l = if l.length < sizeLine then .ok (l ++ [d]) else .no := (rfl)
end
theorem sz {n : Nat} (h : n ≤ 1000000) : n ≤ sizeLine := Nat.le_trans h (by decide)
theorem szl {n : Nat} (h : n < 1000000) : n < sizeLine := Nat.lt_of_lt_of_le h (by decide)
@[simp] theorem sz_iff (n : Nat) (h : n ≤ 1000000) : (n ≤ sizeLine) = True := by simp [sz h]
/-- all turns go through -/
theorem forL_all {f : D → Sl → Out} {xs : List D} {δ : Sl} (I : Nat → Sl → Prop) (h0 : I 0 δ) (h : ∀ i δ, (hi : i < xs.length) → I i δ → ∃ δ', f xs[i] δ = .nx δ' ∧ I (i + 1) δ') : ∃ δ', forL f xs δ = .nx δ' ∧ I xs.length δ' := by
  induction xs generalizing δ I with
  | nil => exact ⟨δ, rfl, h0⟩
  | cons x xs ih =>
    obtain ⟨δ1, e1, i1⟩ := h 0 δ (by simp) h0
    obtain ⟨δ2, e2, i2⟩ := ih (δ := δ1) (fun i => I (i + 1)) i1 fun i δ hi hI => h (i + 1) δ (by simpa using hi) hI
    refine ⟨δ2, ?_, i2⟩
    show (f x δ).thn (forL f xs) = _
    have e1 : f x δ = .nx δ1 := e1
    rw [e1]; exact e2
theorem F_rt {s : S} {n m : Nat} {ds : List D} {δ : Sl} {d : D} (h : decide (ds.length = m) = true) (e : ds.map some ++ List.replicate (n - m) none = δ) (hs : sev s δ = .rt d) : fnD s n m ds = .ok d := by
  unfold fnD
  rw [h, e, hs]
theorem rngD_ok {lo hi : Int} (h1 : -1000000 ≤ lo) (h2 : lo ≤ 1000000) (h3 : -1000000 ≤ hi) (h4 : hi ≤ 1000000) (h5 : (hi - lo).toNat ≤ 1000000) : rngD lo hi = .ok (.list ((List.range (hi - lo).toNat).map fun (i : Nat) => .int (lo + (i : Int)))) := by
  unfold rngD
  rw [if_pos ⟨by omega, by omega, by omega, by omega, sz h5⟩]
theorem sq {s t : S} {δ δ1 : Sl} {r : Out} (h : sev s δ = .nx δ1) (h2 : sev t δ1 = r) : sev (.seq s t) δ = r := by
  show (sev s δ).thn (sev t) = r
  rw [h]; exact h2
theorem sqx {s t : S} {δ : Sl} {d : D} (h : sev s δ = .rt d) : sev (.seq s t) δ = .rt d := by
  show (sev s δ).thn (sev t) = _
  rw [h]; rfl
/-- a loop whose every turn goes through -/
theorem s_for {tg : Tg} {it : E} {im : Bool} {τ : Tys} {s : S} {δ : Sl} {xs : List D} (h1 : (ev it δ >>= iterD) = .ok xs) (h2 : (!im || immL xs) = true) (I : Nat → Sl → Prop) (h0 : I 0 δ)
    (h : ∀ i δ, (hi : i < xs.length) → I i δ → ∃ δ1 δ', setTg tg xs[i] δ = .ok δ1 ∧ sev s δ1 = .nx δ' ∧ I (i + 1) δ') : ∃ δ', sev (.forE tg it im τ s) δ = .nx δ' ∧ I xs.length δ' := by
  obtain ⟨δ', e, hI⟩ := forL_all (f := fun x δ => lft δ (setTg tg x δ) (sev s)) (xs := xs) I h0 fun i δ hi hI => by
    obtain ⟨δ1, δ', e1, e2, hI'⟩ := h i δ hi hI
    exact ⟨δ', by show lft δ (setTg tg xs[i] δ) (sev s) = _; rw [e1]; exact e2, hI'⟩
  refine ⟨δ', ?_, hI⟩
  show (lft δ (ev it δ >>= iterD) fun xs => match (!im || immL xs) with
    | true => forL (fun x δ => lft δ (setTg tg x δ) (sev s)) xs δ
    | false => .no) = _
  rw [h1]
  show (match (!im || immL xs) with
    | true => forL (fun x δ => lft δ (setTg tg x δ) (sev s)) xs δ
    | false => .no) = _
  rw [h2]; exact e
theorem immL_rng (lo : Int) (n : Nat) : immL ((List.range n).map fun (i : Nat) => PyData.int (lo + (i : Int))) = true := immL_all fun d hd => by
  obtain ⟨i, _, rfl⟩ := List.mem_map.mp hd
  rfl
theorem s_range {i : Nat} {a : E} {τ : Tys} {s : S} {δ : Sl} {n : Int} (h1 : ev a δ = .ok (.int n)) (hn : n ≤ 1000000) (hn2 : -1000000 ≤ n) (I : Nat → Sl → Prop) (h0 : I 0 δ)
    (h : ∀ k δ, k < n.toNat → I k δ → ∃ δ', sev s (δ.set i (some (.int (k : Int)))) = .nx δ' ∧ I (k + 1) δ') : ∃ δ', sev (.forE (.one i) (.rng1 a) true τ s) δ = .nx δ' ∧ I n.toNat δ' := by
  obtain ⟨δ', e, hI⟩ := s_for (tg := .one i) (it := .rng1 a) (im := true) (τ := τ) (s := s) (δ := δ) (xs := (List.range (n - 0).toNat).map fun (i : Nat) => PyData.int (0 + (i : Int))) (by
    simp only [q_rng1, h1, q_ok, q_intD]
    rw [rngD_ok (by omega) (by omega) (by omega) (by omega) (by omega)]
    rfl) (by rw [immL_rng]; rfl) I h0 fun k δ hk hI => by
      have hk' : k < n.toNat := by simpa using hk
      obtain ⟨δ', e, hI'⟩ := h k δ hk' hI
      refine ⟨_, δ', rfl, ?_, hI'⟩
      simpa using e
  refine ⟨δ', e, ?_⟩
  simpa using hI
theorem s_range2 {i : Nat} {a b : E} {τ : Tys} {s : S} {δ : Sl} {m n : Int} (h1 : ev a δ = .ok (.int m)) (h2 : ev b δ = .ok (.int n)) (hn : n ≤ 1000000) (hn2 : -1000000 ≤ n) (hm : m ≤ 100000) (hm2 : 0 ≤ m) (I : Nat → Sl → Prop) (h0 : I 0 δ)
    (h : ∀ (k : Nat) δ, m + k < n → I k δ → ∃ δ', sev s (δ.set i (some (.int (m + (k : Int))))) = .nx δ' ∧ I (k + 1) δ') : ∃ δ', sev (.forE (.one i) (.rng2 a b) true τ s) δ = .nx δ' ∧ I (n - m).toNat δ' := by
  obtain ⟨δ', e, hI⟩ := s_for (tg := .one i) (it := .rng2 a b) (im := true) (τ := τ) (s := s) (δ := δ) (xs := (List.range (n - m).toNat).map fun (i : Nat) => PyData.int (m + (i : Int))) (by
    simp only [q_rng2, h1, h2, q_ok, q_intD]
    rw [rngD_ok (by omega) (by omega) (by omega) (by omega) (by omega)]
    rfl) (by rw [immL_rng]; rfl) I h0 fun k δ hk hI => by
      have hk' : k < (n - m).toNat := by simpa using hk
      obtain ⟨δ', e, hI'⟩ := h k δ (by omega) hI
      refine ⟨_, δ', rfl, ?_, hI'⟩
      simpa using e
  refine ⟨δ', e, ?_⟩
  simpa using hI
theorem sq_for {tg : Tg} {it : E} {im : Bool} {τ : Tys} {s t : S} {δ : Sl} {r : Out} (xs : List D) (h1 : (ev it δ >>= iterD) = .ok xs) (h2 : (!im || immL xs) = true) (I : Nat → Sl → Prop) (h0 : I 0 δ)
    (h : ∀ i δ, (hi : i < xs.length) → I i δ → ∃ δ1 δ', setTg tg xs[i] δ = .ok δ1 ∧ sev s δ1 = .nx δ' ∧ I (i + 1) δ') (fin : ∀ δ', I xs.length δ' → sev t δ' = r) : sev (.seq (.forE tg it im τ s) t) δ = r := by
  obtain ⟨δ', e, hI⟩ := s_for (τ := τ) h1 h2 I h0 h
  exact sq e (fin δ' hI)
theorem sq_rng {i : Nat} {a : E} {τ : Tys} {s t : S} {δ : Sl} {r : Out} (n : Int) (h1 : ev a δ = .ok (.int n)) (hn : n ≤ 1000000) (hn2 : -1000000 ≤ n) (I : Nat → Sl → Prop) (h0 : I 0 δ)
    (h : ∀ k δ, k < n.toNat → I k δ → ∃ δ', sev s (δ.set i (some (.int (k : Int)))) = .nx δ' ∧ I (k + 1) δ') (fin : ∀ δ', I n.toNat δ' → sev t δ' = r) : sev (.seq (.forE (.one i) (.rng1 a) true τ s) t) δ = r := by
  obtain ⟨δ', e, hI⟩ := s_range (τ := τ) h1 hn hn2 I h0 h
  exact sq e (fin δ' hI)
theorem sq_rng2 {i : Nat} {a b : E} {τ : Tys} {s t : S} {δ : Sl} {r : Out} (m n : Int) (h1 : ev a δ = .ok (.int m)) (h2 : ev b δ = .ok (.int n)) (hn : n ≤ 1000000) (hn2 : -1000000 ≤ n) (hm : m ≤ 100000) (hm2 : 0 ≤ m) (I : Nat → Sl → Prop) (h0 : I 0 δ)
    (h : ∀ (k : Nat) δ, m + k < n → I k δ → ∃ δ', sev s (δ.set i (some (.int (m + (k : Int))))) = .nx δ' ∧ I (k + 1) δ') (fin : ∀ δ', I (n - m).toNat δ' → sev t δ' = r) : sev (.seq (.forE (.one i) (.rng2 a b) true τ s) t) δ = r := by
  obtain ⟨δ', e, hI⟩ := s_range2 (τ := τ) h1 h2 hn hn2 hm hm2 I h0 h
  exact sq e (fin δ' hI)
theorem q_ixL {xs : List D} {k : Int} {d : D} (h : atI xs k = some d) : ixD (.list xs) (.int k) = .ok d := by
  show (match atI xs k with
    | some d => R.ok d
    | none => .no) = _
  rw [h]
theorem q_ixN {xs : List D} {k : Nat} {d : D} (h : xs[k]? = some d) : ixD (.list xs) (.int (k : Int)) = .ok d := q_ixL (atI_of (j := k) (by
  have := (List.getElem?_eq_some_iff.mp h).1
  unfold ixN
  rw [if_pos (by omega), if_pos (by omega), Int.toNat_natCast]) h)
theorem compL_cons {f : D → R (Option D)} {x : D} {xs ys : List D} {o : Option D} (h : f x = .ok o) (h2 : compL f xs = .ok ys) : compL f (x :: xs) = .ok (o.toList ++ ys) := by
  rw [compL, h, q_ok, h2, q_ok]
theorem ev_comp {β : Type} {own : List (Str × Nat)} {tg : Tg} {it elt : E} {δ : Sl} (l : List β) (f g : β → D) (h1 : (ev it δ >>= iterD) = .ok (l.map f))
    (h : ∀ b ∈ l, ∃ δ', setTg tg (f b) (wipeD δ (own.map (·.2))) = .ok δ' ∧ ev elt δ' = .ok (g b)) : ev (.comp own tg it .nop elt) δ = .ok (.list (l.map g)) := by
  show (ev it δ >>= iterD >>= fun xs => nox (compL (fun x => setTg tg x (wipeD δ (own.map (·.2))) >>= fun δ' => evc .nop δ' >>= fun c => match c with
        | true => ev elt δ' >>= fun y => .ok (some y)
        | false => .ok none) xs) >>= fun ys => R.ok (PyData.list ys)) = _
  rw [h1]
  have key : ∀ l : List β, (∀ b ∈ l, ∃ δ', setTg tg (f b) (wipeD δ (own.map (·.2))) = .ok δ' ∧ ev elt δ' = .ok (g b)) → compL (fun x => setTg tg x (wipeD δ (own.map (·.2))) >>= fun δ' => evc .nop δ' >>= fun c => match c with
        | true => ev elt δ' >>= fun y => .ok (some y)
        | false => .ok none) (l.map f) = .ok (l.map g) := by
    intro l
    induction l with
    | nil => intro _; rfl
    | cons b l ih =>
      intro h
      obtain ⟨δ', e1, e2⟩ := h b List.mem_cons_self
      refine compL_cons (o := some (g b)) ?_ (ih fun c hc => h c (List.mem_cons_of_mem _ hc))
      simp only [e1, q_ok, q_cnop, e2]
  simp only [q_ok, key l h, q_nox]
theorem intsD_map (l : List Int) : intsD (l.map fun i => PyData.int i) = .ok l := by
  induction l with
  | nil => rfl
  | cons i l ih =>
    show (intsD (l.map fun i => PyData.int i) >>= fun l => R.ok (i :: l)) = _
    rw [ih]; rfl
theorem blt_sum (l : List Int) : blt1 .sum (.list (l.map fun i => PyData.int i)) = .ok (.int l.sum) := by
  show (intsD (l.map fun i => PyData.int i) >>= fun l => R.ok (PyData.int l.sum)) = _
  rw [intsD_map]; rfl
/-! ### equality of data -/
/-- d can be compared and is at most n deep -/
def Shp (n : Nat) (d : D) : Prop := d.canLay0 = true ∧ d.depth ≤ n
theorem Shp.shaped {n : Nat} {d : D} (h : Shp n d) (hn : n ≤ 64) : SeqAt.shaped d = true := by
  unfold SeqAt.shaped
  rw [h.1, decide_eq_true (Nat.le_trans h.2 hn)]; rfl
theorem Shp.all {n : Nat} : ∀ {l : List D}, (∀ d ∈ l, Shp n d) → PyData.canLayAll0 l = true ∧ PyData.depthAll l ≤ n
  | [], _ => ⟨rfl, Nat.zero_le _⟩
  | d :: l, h => by
    have h1 := h d List.mem_cons_self
    have h2 := Shp.all fun x hx => h x (List.mem_cons_of_mem _ hx)
    exact ⟨by rw [PyData.canLayAll0, h1.1, h2.1]; rfl, by rw [PyData.depthAll]; exact Nat.max_le.mpr ⟨h1.2, h2.2⟩⟩
theorem Shp.list {n : Nat} {l : List D} (h : ∀ d ∈ l, Shp n d) : Shp (n + 1) (.list l) := ⟨by rw [PyData.canLay0]; exact (Shp.all h).1, by rw [PyData.depth]; exact Nat.succ_le_succ (Shp.all h).2⟩
theorem Shp.tuple {n : Nat} {l : List D} (h : ∀ d ∈ l, Shp n d) : Shp (n + 1) (.tuple l) := ⟨by rw [PyData.canLay0]; exact (Shp.all h).1, by rw [PyData.depth]; exact Nat.succ_le_succ (Shp.all h).2⟩
theorem Shp.int (i : Int) (n : Nat) : Shp n (.int i) := ⟨rfl, Nat.zero_le _⟩
theorem eqD_self {n : Nat} {d : D} (h : Shp n d) (hn : n ≤ 64 := by decide) : eqD d d = .ok true := by
  unfold eqD
  rw [if_pos ⟨h.shaped hn, h.shaped hn⟩, PySem.SeqAt.eqv_refl d h.1]
/-! ### by any wish -/
section
variable {W : Out → Prop} {s t a b : S} {δ : Sl} {c : E}
theorem P_sq {δ1 : Sl} (h : sev s δ = .nx δ1) (k : W (sev t δ1)) : W (sev (.seq s t) δ) := by
  rw [sq h rfl]; exact k
theorem P_nil (k : W (.nx δ)) : W (sev .nil δ) := k
theorem P_ife {J : Sl → Prop} {bb : Bool} (hc : ev c δ = .ok (.bool bb)) (h1 : bb = true → ∃ δ', sev a δ = .nx δ' ∧ J δ') (h2 : bb = false → ∃ δ', sev b δ = .nx δ' ∧ J δ') (k : ∀ δ', J δ' → W (sev t δ')) : W (sev (.seq (.ife c a b) t) δ) := by
  have key : ∃ δ', sev (.ife c a b) δ = .nx δ' ∧ J δ' := by
    rw [q_sife, hc, q_ok, q_boolD, q_lok]
    cases bb with
    | true => exact h1 rfl
    | false => exact h2 rfl
  obtain ⟨δ', e, j⟩ := key
  exact P_sq e (k δ' j)
theorem P_rng {i : Nat} {a : E} {τ : Tys} (n : Int) (h1 : ev a δ = .ok (.int n)) (hn : n ≤ 1000000) (hn2 : -1000000 ≤ n) (I : Nat → Sl → Prop) (h0 : I 0 δ)
    (h : ∀ k δ, k < n.toNat → I k δ → ∃ δ', sev s (δ.set i (some (.int (k : Int)))) = .nx δ' ∧ I (k + 1) δ') (fin : ∀ δ', I n.toNat δ' → W (sev t δ')) : W (sev (.seq (.forE (.one i) (.rng1 a) true τ s) t) δ) := by
  obtain ⟨δ', e, hI⟩ := s_range (τ := τ) h1 hn hn2 I h0 h
  exact P_sq e (fin δ' hI)
theorem P_for {tg : Tg} {it : E} {im : Bool} {τ : Tys} (xs : List D) (h1 : (ev it δ >>= iterD) = .ok xs) (h2 : (!im || immL xs) = true) (I : Nat → Sl → Prop) (h0 : I 0 δ)
    (h : ∀ i δ, (hi : i < xs.length) → I i δ → ∃ δ1 δ', setTg tg xs[i] δ = .ok δ1 ∧ sev s δ1 = .nx δ' ∧ I (i + 1) δ') (fin : ∀ δ', I xs.length δ' → W (sev t δ')) : W (sev (.seq (.forE tg it im τ s) t) δ) := by
  obtain ⟨δ', e, hI⟩ := s_for (τ := τ) h1 h2 I h0 h
  exact P_sq e (fin δ' hI)
end
end VS
set_option Elab.async false
set_option linter.all false
set_option maxRecDepth 100000
namespace VS
open PySem PySem.Spec L2
open PyProof.Rows hiding St
def Tomega_lane : S := (.seq (.asg (.one 4) (.ari .LShift (.k (.int 1)) (.ari .Sub (.sl 0) (.sl 3))))
(.seq (.ret (.ari .Add (.ari .Mult (.ari .Mod (.sl 1) (.sl 4)) (.ari .LShift (.k (.int 1)) (.sl 3))) (.ari .FloorDiv (.sl 2) (.sl 4))))
.nil))
def Fomega_lane : List D → R D := fnD Tomega_lane 5 4
def Tshuffled : S := (.seq (.asg (.one 2) (.ari .LShift (.k (.int 1)) (.ari .Sub (.sl 0) (.k (.int 1)))))
(.seq (.ret (.ari .Add (.ari .Mult (.ari .Mod (.sl 1) (.sl 2)) (.k (.int 2))) (.ari .FloorDiv (.sl 1) (.sl 2))))
.nil))
def Fshuffled : List D → R D := fnD Tshuffled 3 2
def Tfirst_common : S := (.seq (.forE (.one 2) (.rng1 (.blt .len (.cons (.sl 0) .nil))) true [some (.S, true), some (.S, true), some (.F, false)]
(.seq (.ife (.cmp .Eq (.ix (.sl 0) (.sl 2)) (.ix (.sl 1) (.sl 2)))
(.seq (.retS 2)
.nil)
.nil)
.nil))
(.seq (.ret (.k (.none)))
.nil))
def Ffirst_common : List D → R D := fnD Tfirst_common 3 2
def Tshift_calls : S := (.seq (.asg (.one 3) (.ari .LShift (.k (.int 1)) (.sl 0)))
(.seq (.ret (.comp [("inlet", 4)] (.one 4) (.rng1 (.sl 3)) .nop (.tup (.cons (.cI (.sl 4)) (.cons (.ari .Mod (.ari .Add (.ari .Mult (.sl 4) (.sl 1)) (.sl 2)) (.sl 3)) .nil)))))
.nil))
def Fshift_calls : List D → R D := fnD Tshift_calls 5 3
def Tis_close_and_rising : S := (.seq (.forE (.one 2) (.rng2 (.k (.int 1)) (.blt .len (.cons (.sl 1) .nil))) true [some (.S, true), some (.S, true), some (.F, false)]
(.seq (.ife (.or (.cmp .NotEq (.ix (.ix (.sl 1) (.sl 2)) (.k (.int 0))) (.ari .Add (.ix (.ix (.sl 1) (.ari .Sub (.sl 2) (.k (.int 1)))) (.k (.int 0))) (.k (.int 1)))) (.one (.cmp .LtE (.ix (.ix (.sl 1) (.sl 2)) (.k (.int 1))) (.ix (.ix (.sl 1) (.ari .Sub (.sl 2) (.k (.int 1)))) (.k (.int 1))))))
(.seq (.ret (.k (.bool false)))
.nil)
.nil)
.nil))
(.seq (.ret (.k (.bool true)))
.nil))
def Fis_close_and_rising : List D → R D := fnD Tis_close_and_rising 3 2
def Tbutterfly_lane : S := (.seq (.asg (.one 4) (.ari .LShift (.k (.int 1)) (.ari .Sub (.sl 0) (.sl 3))))
(.seq (.ret (.ari .Add (.ari .Mult (.ari .FloorDiv (.sl 2) (.sl 4)) (.sl 4)) (.ari .Mod (.sl 1) (.sl 4))))
.nil))
def Fbutterfly_lane : List D → R D := fnD Tbutterfly_lane 5 4
def Tnamed_anew : S := (.seq (.asg (.one 3) (.ari .LShift (.k (.int 1)) (.sl 2)))
(.seq (.ret (.ari .Add (.ari .Mult (.ari .Mod (.sl 1) (.sl 3)) (.ari .LShift (.k (.int 1)) (.ari .Sub (.sl 0) (.sl 2)))) (.ari .FloorDiv (.sl 1) (.sl 3))))
.nil))
def Fnamed_anew : List D → R D := fnD Tnamed_anew 4 3
def Twith_member : S := (.seq (.ret (.cat (.cat (.slc (.sl 0) .nop (.prt (.sl 1))) (.lst (.cons (.cL (.cat (.ix (.sl 0) (.sl 1)) (.lst (.cons (.cI (.sl 2)) .nil)))) .nil))) (.slc (.sl 0) (.prt (.ari .Add (.sl 1) (.k (.int 1)))) .nop)))
.nil)
def Fwith_member : List D → R D := fnD Twith_member 3 3
def T_law_draws : S := (.seq (.asg (.one 2) (.lst .nil))
(.seq (.forE (.one 3) (.slc (.sl 0) .nop (.prt (.k (.int 63)))) true [some (.S, true), some (.S, true), some (.F, false), some (.F, false), some (.F, false), some (.F, false), some (.F, false), some (.F, false)]
(.seq (.asg (.one 4) (.blt .abs (.cons (.blt .int (.cons (.sl 3) .nil)) .nil)))
(.seq (.ife (.cmp .GtE (.sl 4) (.ari .Pow (.k (.int 10)) (.k (.int 18))))
(.seq (.forE (.one 5) (.rng1 (.k (.int 60))) true [some (.S, true), some (.S, true), some (.F, false), some (.F, false), some (.F, false), some (.F, false), some (.F, false), some (.F, false)]
(.seq (.ife (.cmp .Gt (.sl 4) (.k (.int 0)))
(.seq (.mu .app false (.sl 2) (.cons (.ari .Mod (.sl 4) (.k (.int 1000003))) .nil))
(.seq (.asg (.one 4) (.ari .FloorDiv (.sl 4) (.k (.int 1000003))))
.nil))
.nil)
.nil))
.nil)
(.seq (.asg (.one 6) (.ari .Mod (.ari .Add (.ari .Add (.ari .Mult (.sl 4) (.k (.int 48271))) (.ari .Mult (.k (.int 7)) (.blt .len (.cons (.sl 2) .nil)))) (.k (.int 11))) (.k (.int 2147483647))))
(.seq (.forE (.one 5) (.rng1 (.k (.int 4))) true [some (.S, true), some (.S, true), some (.F, false), some (.F, false), some (.F, false), some (.F, false), some (.F, false), some (.F, false)]
(.seq (.asg (.one 6) (.ari .Mod (.ari .Add (.ari .Add (.ari .Add (.ari .Mult (.sl 6) (.k (.int 69621))) (.ari .FloorDiv (.sl 6) (.k (.int 65536)))) (.ari .Mult (.k (.int 13)) (.sl 5))) (.k (.int 5))) (.k (.int 2147483629))))
(.seq (.mu .app false (.sl 2) (.cons (.ari .Mod (.ari .FloorDiv (.sl 6) (.k (.int 8))) (.k (.int 1000003))) .nil))
.nil)))
.nil)))
.nil)))
(.seq (.forE (.one 5) (.rng1 (.sl 1)) true [some (.S, true), some (.S, true), some (.F, false), some (.F, false), some (.F, false), some (.F, false), some (.F, false), some (.F, false)]
(.seq (.ife (.cmp .Lt (.blt .len (.cons (.sl 2) .nil)) (.sl 1))
(.seq (.asg (.one 7) (.k (.int 0)))
(.seq (.ife (.cmp .Gt (.blt .len (.cons (.sl 2) .nil)) (.k (.int 0)))
(.seq (.asg (.one 7) (.cI (.ix (.sl 2) (.ari .Mod (.sl 5) (.blt .len (.cons (.sl 2) .nil))))))
.nil)
.nil)
(.seq (.mu .app false (.sl 2) (.cons (.ari .Mod (.ari .Add (.ari .Add (.ari .Mult (.sl 7) (.k (.int 16807))) (.ari .Mult (.k (.int 31)) (.blt .len (.cons (.sl 2) .nil)))) (.k (.int 17))) (.k (.int 1000003))) .nil))
.nil)))
.nil)
.nil))
(.seq (.ret (.cL (.slc (.sl 2) .nop (.prt (.sl 1)))))
.nil))))
def F_law_draws : List D → R D := fnD T_law_draws 8 2
def T_law_order : S := (.seq (.asg (.one 3) (.pr1 .lrg (.sl 2)))
(.seq (.asg (.one 4) (.lst .nil))
(.seq (.forE (.one 5) (.rng1 (.sl 2)) true [some (.S, true), some (.S, true), some (.S, true), some (.F, false), some (.F, false), some (.F, false)]
(.seq (.apo 4 3 (.ari .Mod (.ari .FloorDiv (.ix (.sl 0) (.ari .Add (.sl 1) (.sl 5))) (.ari .Add (.k (.int 1)) (.ari .FloorDiv (.sl 5) (.k (.int 7))))) (.blt .len (.cons (.sl 3) .nil))))
.nil))
(.seq (.retS 4)
.nil))))
def F_law_order : List D → R D := fnD T_law_order 6 3
def T_law_omega : S := (.seq (.asg (.one 3) (.ari .LShift (.k (.int 1)) (.sl 0)))
(.seq (.asg (.one 4) (.lst .nil))
(.seq (.asg (.one 5) (.cI (.sl 1)))
(.seq (.forE (.one 6) (.rng1 (.sl 0)) true [some (.S, true), some (.S, true), some (.S, true), some (.F, false), some (.F, false), some (.F, false), some (.F, false)]
(.seq (.asg (.one 5) (.ari .Mod (.ari .Add (.ari .Mult (.k (.int 2)) (.sl 5)) (.ari .Mod (.ari .RShift (.sl 2) (.ari .Sub (.ari .Sub (.sl 0) (.k (.int 1))) (.sl 6))) (.k (.int 2)))) (.sl 3)))
(.seq (.mu .app false (.sl 4) (.cons (.cI (.sl 5)) .nil))
.nil)))
(.seq (.retS 4)
.nil)))))
def F_law_omega : List D → R D := fnD T_law_omega 7 3
def T_law_fly : S := (.seq (.asg (.one 3) (.lst .nil))
(.seq (.asg (.one 4) (.cI (.sl 1)))
(.seq (.forE (.one 5) (.rng1 (.sl 0)) true [some (.S, true), some (.S, true), some (.S, true), some (.F, false), some (.F, false), some (.F, false), some (.F, false)]
(.seq (.asg (.one 6) (.ari .LShift (.k (.int 1)) (.ari .Sub (.ari .Sub (.sl 0) (.k (.int 1))) (.sl 5))))
(.seq (.asg (.one 4) (.ari .Add (.ari .Add (.ari .Sub (.sl 4) (.ari .Mod (.sl 4) (.ari .Mult (.k (.int 2)) (.sl 6)))) (.ari .Sub (.ari .Mod (.sl 2) (.ari .Mult (.k (.int 2)) (.sl 6))) (.ari .Mod (.sl 2) (.sl 6)))) (.ari .Mod (.sl 4) (.sl 6))))
(.seq (.mu .app false (.sl 3) (.cons (.cI (.sl 4)) .nil))
.nil))))
(.seq (.retS 3)
.nil))))
def F_law_fly : List D → R D := fnD T_law_fly 7 3
def T_law_apart : S := (.seq (.forE (.one 1) (.rng1 (.blt .len (.cons (.sl 0) .nil))) true [some (.S, true), some (.F, false), some (.F, false), some (.F, false)]
(.seq (.forE (.one 2) (.rng1 (.sl 1)) true [some (.S, true), some (.F, false), some (.F, false), some (.F, false)]
(.seq (.ife (.cmp .NotEq (.comp [("t", 3)] (.one 3) (.rng1 (.blt .len (.cons (.ix (.sl 0) (.sl 1)) .nil))) (.prt (.cmp .Eq (.ix (.ix (.sl 0) (.sl 2)) (.sl 3)) (.ix (.ix (.sl 0) (.sl 1)) (.sl 3)))) (.cI (.sl 3))) (.lst .nil))
(.seq (.ret (.k (.bool false)))
.nil)
.nil)
.nil))
.nil))
(.seq (.ret (.k (.bool true)))
.nil))
def F_law_apart : List D → R D := fnD T_law_apart 4 1
def T_law_walked : S := (.seq (.asg (.one 3) (.ari .LShift (.k (.int 1)) (.sl 0)))
(.seq (.asg (.one 4) (.cI (.sl 2)))
(.seq (.forE (.one 5) (.rng1 (.sl 0)) true [some (.S, true), some (.S, true), some (.S, true), some (.F, false), some (.F, false), some (.F, false)]
(.seq (.asg (.one 4) (.ari .Mod (.ari .Add (.ari .Mult (.k (.int 2)) (.sl 4)) (.ari .FloorDiv (.ari .Mult (.k (.int 2)) (.sl 4)) (.sl 3))) (.sl 3)))
(.seq (.ife (.cmp .Is (.ix (.ix (.sl 1) (.sl 5)) (.ari .FloorDiv (.sl 4) (.k (.int 2)))) (.k (.none)))
(.seq (.ret (.k (.none)))
.nil)
.nil)
(.seq (.ife (.ix (.ix (.sl 1) (.sl 5)) (.ari .FloorDiv (.sl 4) (.k (.int 2))))
(.seq (.asg (.one 4) (.ari .Sub (.ari .Add (.sl 4) (.k (.int 1))) (.ari .Mult (.k (.int 2)) (.ari .Mod (.sl 4) (.k (.int 2))))))
.nil)
.nil)
.nil))))
(.seq (.retS 4)
.nil))))
def F_law_walked : List D → R D := fnD T_law_walked 6 3
def Tomega_way : S := (.seq (.ret (.comp [("stage", 3)] (.one 3) (.rng2 (.k (.int 1)) (.ari .Add (.sl 0) (.k (.int 1)))) .nop (.call "omega_lane" Fomega_lane .F (.cons (.cI (.sl 0)) (.cons (.cI (.sl 1)) (.cons (.cI (.sl 2)) (.cons (.cI (.sl 3)) .nil)))))))
.nil)
def Fomega_way : List D → R D := fnD Tomega_way 4 3
def Tlanes_before : S := (.seq (.ret (.comp [("stage", 2)] (.one 2) (.rng1 (.sl 0)) .nop (.call "shuffled" Fshuffled .F (.cons (.cI (.sl 0)) (.cons (.call "omega_lane" Fomega_lane .F (.cons (.cI (.sl 0)) (.cons (.cI (.ix (.sl 1) (.k (.int 0)))) (.cons (.cI (.ix (.sl 1) (.k (.int 1)))) (.cons (.cI (.sl 2)) .nil))))) .nil)))))
.nil)
def Flanes_before : List D → R D := fnD Tlanes_before 3 2
def Tfirst_clash : S := (.seq (.forE (.one 1) (.rng1 (.blt .len (.cons (.sl 0) .nil))) true [some (.S, true), some (.F, false), some (.F, false), some (.F, false)]
(.seq (.forE (.one 2) (.rng2 (.ari .Add (.sl 1) (.k (.int 1))) (.blt .len (.cons (.sl 0) .nil))) true [some (.S, true), some (.F, false), some (.F, false), some (.F, false)]
(.seq (.asg (.one 3) (.call "first_common" Ffirst_common .F (.cons (.ix (.sl 0) (.sl 1)) (.cons (.ix (.sl 0) (.sl 2)) .nil))))
(.seq (.ife (.cmp .IsNot (.sl 3) (.k (.none)))
(.seq (.ret (.tup (.cons (.cI (.sl 1)) (.cons (.cI (.sl 2)) (.cons (.cI (.sl 3)) .nil)))))
.nil)
.nil)
.nil)))
.nil))
(.seq (.ret (.k (.none)))
.nil))
def Ffirst_clash : List D → R D := fnD Tfirst_clash 4 1
def Tbutterfly_way : S := (.seq (.ret (.comp [("stage", 3)] (.one 3) (.rng2 (.k (.int 1)) (.ari .Add (.sl 0) (.k (.int 1)))) .nop (.call "butterfly_lane" Fbutterfly_lane .F (.cons (.cI (.sl 0)) (.cons (.cI (.sl 1)) (.cons (.cI (.sl 2)) (.cons (.cI (.sl 3)) .nil)))))))
.nil)
def Fbutterfly_way : List D → R D := fnD Tbutterfly_way 4 3
def Tsame_nets : S := (.seq (.ret (.comp [("stage", 1)] (.one 1) (.rng1 (.ari .Add (.sl 0) (.k (.int 1)))) .nop (.comp [("lane", 2)] (.one 2) (.rng1 (.ari .LShift (.k (.int 1)) (.sl 0))) .nop (.call "named_anew" Fnamed_anew .F (.cons (.cI (.sl 0)) (.cons (.cI (.sl 2)) (.cons (.cI (.sl 1)) .nil)))))))
.nil)
def Fsame_nets : List D → R D := fnD Tsame_nets 3 1
def Tfits_group : S := (.seq (.forE (.one 3) (.sl 1) true [some (.S, true), some (.S, true), some (.S, true), some (.F, false)]
(.seq (.ife (.cmp .IsNot (.call "first_common" Ffirst_common .F (.cons (.ix (.sl 0) (.sl 3)) (.cons (.ix (.sl 0) (.sl 2)) .nil))) (.k (.none)))
(.seq (.ret (.k (.bool false)))
.nil)
.nil)
.nil))
(.seq (.ret (.k (.bool true)))
.nil))
def Ffits_group : List D → R D := fnD Tfits_group 4 3
def Ttable_of : S := (.seq (.asg (.one 2) (.comp [("stage", 6)] (.one 6) (.rng1 (.sl 0)) .nop (.cL (.rep (.lst (.cons (.k (.none)) .nil)) (.ari .LShift (.k (.int 1)) (.ari .Sub (.sl 0) (.k (.int 1))))))))
(.seq (.forE (.one 3) (.sl 1) true [some (.S, true), some (.S, true), some (.F, false), some (.F, false), some (.F, false), some (.F, false), some (.F, false)]
(.seq (.par 4 5 (.cons (.call "lanes_before" Flanes_before .F (.cons (.cI (.sl 0)) (.cons (.cI (.sl 3)) .nil))) (.cons (.call "omega_way" Fomega_way .F (.cons (.cI (.sl 0)) (.cons (.cI (.ix (.sl 3) (.k (.int 0)))) (.cons (.cI (.ix (.sl 3) (.k (.int 1)))) .nil)))) .nil)))
(.seq (.forE (.one 6) (.rng1 (.sl 0)) true [some (.S, true), some (.S, true), some (.F, false), some (.F, false), some (.F, false), some (.F, false), some (.F, false)]
(.seq (.setI false (.ix (.sl 2) (.sl 6)) (.ari .FloorDiv (.ix (.sl 5) (.sl 6)) (.k (.int 2))) (.cmp .NotEq (.ari .Mod (.ix (.sl 4) (.sl 6)) (.k (.int 2))) (.ari .Mod (.ix (.sl 5) (.sl 6)) (.k (.int 2)))))
.nil))
.nil)))
(.seq (.retS 2)
.nil)))
def Ftable_of : List D → R D := fnD Ttable_of 7 2
def Tways_of : S := (.seq (.ret (.comp [("inlet", 2), ("outlet", 3)] (.tup [2, 3]) (.sl 1) .nop (.call "omega_way" Fomega_way .F (.cons (.cI (.sl 0)) (.cons (.cI (.sl 2)) (.cons (.cI (.sl 3)) .nil))))))
.nil)
def Fways_of : List D → R D := fnD Tways_of 4 2
def Tfurther_groups : S := (.seq (.asg (.one 4) (.lst .nil))
(.seq (.ife (.cmp .Lt (.blt .len (.cons (.sl 1) .nil)) (.sl 3))
(.seq (.mu .app false (.sl 4) (.cons (.cat (.sl 1) (.lst (.cons (.lst (.cons (.cI (.sl 2)) .nil)) .nil))) .nil))
.nil)
.nil)
(.seq (.forE (.one 5) (.rng1 (.blt .len (.cons (.sl 1) .nil))) true [some (.S, true), some (.S, true), some (.S, true), some (.S, true), some ((.L (.L .S)), true), some (.F, false)]
(.seq (.ife (.call "fits_group" Ffits_group .F (.cons (.sl 0) (.cons (.ix (.sl 1) (.sl 5)) (.cons (.cI (.sl 2)) .nil))))
(.seq (.mu .app false (.sl 4) (.cons (.call "with_member" Fwith_member (.L .S) (.cons (.sl 1) (.cons (.cI (.sl 5)) (.cons (.cI (.sl 2)) .nil)))) .nil))
.nil)
.nil)
.nil))
(.seq (.retS 4)
.nil))))
def Ffurther_groups : List D → R D := fnD Tfurther_groups 6 4
def Tomega_paper : S := (.seq (.asg (.one 2) (.call "first_clash" Ffirst_clash .F (.cons (.comp [("inlet", 3), ("outlet", 4)] (.tup [3, 4]) (.sl 1) .nop (.call "omega_way" Fomega_way .F (.cons (.cI (.sl 0)) (.cons (.cI (.sl 3)) (.cons (.cI (.sl 4)) .nil))))) .nil)))
(.seq (.ife (.cmp .IsNot (.sl 2) (.k (.none)))
(.seq (.ret (.tup (.cons (.k (.str "clash")) (.cons (.cI (.ix (.sl 2) (.k (.int 0)))) (.cons (.cI (.ix (.sl 2) (.k (.int 1)))) (.cons (.ari .Add (.ix (.sl 2) (.k (.int 2))) (.k (.int 1))) .nil))))))
.nil)
.nil)
(.seq (.ret (.tup (.cons (.k (.str "settings")) (.cons (.call "table_of" Ftable_of .F (.cons (.cI (.sl 0)) (.cons (.sl 1) .nil))) .nil))))
.nil)))
def Fomega_paper : List D → R D := fnD Tomega_paper 5 2
def Tgroups_into : S := (.seq (.asg (.one 2) (.lst (.cons (.lst .nil) .nil)))
(.seq (.whi (fun _ => 1000000000) [some (.S, true), some (.S, true), some ((.L .S), true), some (.S, true), some (.F, false), some (.F, false)] (.cmp .Gt (.blt .len (.cons (.sl 2) .nil)) (.k (.int 0)))
(.seq (.popL false 3 2)
(.seq (.asg (.one 4) (.blt .sum (.cons (.comp [("group", 5)] (.one 5) (.sl 3) .nop (.blt .len (.cons (.sl 5) .nil))) .nil)))
(.seq (.ife (.cmp .Eq (.sl 4) (.blt .len (.cons (.sl 0) .nil)))
(.seq (.ret (.sl 3))
.nil)
.nil)
(.seq (.ext false (.sl 2) (.call "further_groups" Ffurther_groups (.L (.L .S)) (.cons (.sl 0) (.cons (.sl 3) (.cons (.cI (.sl 4)) (.cons (.cI (.sl 1)) .nil))))))
.nil)))))
(.seq (.ret (.k (.none)))
.nil)))
def Fgroups_into : List D → R D := fnD Tgroups_into 6 2
def Tleast_groups : S := (.seq (.asg (.one 1) (.k (.int 0)))
(.seq (.asg (.one 2) (.call "groups_into" Fgroups_into .S (.cons (.sl 0) (.cons (.cI (.sl 1)) .nil))))
(.seq (.whi (fun _ => 100) [some (.S, true), some (.F, false), some (.S, true)] (.cmp .Is (.sl 2) (.k (.none)))
(.seq (.asg (.one 1) (.ari .Add (.sl 1) (.k (.int 1))))
(.seq (.asg (.one 2) (.call "groups_into" Fgroups_into .S (.cons (.sl 0) (.cons (.cI (.sl 1)) .nil))))
.nil)))
(.seq (.ret (.sl 2))
.nil))))
def Fleast_groups : List D → R D := fnD Tleast_groups 3 1
def T_law_right : S := (.seq (.asg (.one 3) (.comp [("a", 7), ("b", 8)] (.tup [7, 8]) (.sl 1) .nop (.call "_law_omega" F_law_omega .F (.cons (.cI (.sl 0)) (.cons (.cI (.sl 7)) (.cons (.cI (.sl 8)) .nil))))))
(.seq (.forE (.one 4) (.rng1 (.blt .len (.cons (.sl 1) .nil))) true [some (.S, true), some (.S, true), some (.S, true), some (.F, false), some (.F, false), some (.F, false), some (.F, false), some (.F, false), some (.F, false), some (.F, false), some (.F, false)]
(.seq (.ife (.cmp .NotEq (.call "omega_way" Fomega_way .F (.cons (.cI (.sl 0)) (.cons (.cI (.ix (.ix (.sl 1) (.sl 4)) (.k (.int 0)))) (.cons (.cI (.ix (.ix (.sl 1) (.sl 4)) (.k (.int 1)))) .nil)))) (.ix (.sl 3) (.sl 4)))
(.seq (.ret (.k (.bool false)))
.nil)
.nil)
(.seq (.ife (.cmp .NotEq (.call "butterfly_way" Fbutterfly_way .F (.cons (.cI (.sl 0)) (.cons (.cI (.ix (.ix (.sl 1) (.sl 4)) (.k (.int 0)))) (.cons (.cI (.ix (.ix (.sl 1) (.sl 4)) (.k (.int 1)))) .nil)))) (.call "_law_fly" F_law_fly .F (.cons (.cI (.sl 0)) (.cons (.cI (.ix (.ix (.sl 1) (.sl 4)) (.k (.int 0)))) (.cons (.cI (.ix (.ix (.sl 1) (.sl 4)) (.k (.int 1)))) .nil)))))
(.seq (.ret (.k (.bool false)))
.nil)
.nil)
(.seq (.asg (.one 5) (.comp [("t", 9)] (.one 9) (.rng1 (.sl 0)) .nop (.cI (.ix (.ix (.sl 2) (.ari .Add (.sl 9) (.k (.int 1)))) (.ix (.ix (.sl 3) (.sl 4)) (.sl 9))))))
(.seq (.ife (.cmp .NotEq (.sl 5) (.call "_law_fly" F_law_fly .F (.cons (.cI (.sl 0)) (.cons (.cI (.ix (.ix (.sl 2) (.k (.int 0))) (.ix (.ix (.sl 1) (.sl 4)) (.k (.int 0))))) (.cons (.cI (.ix (.ix (.sl 2) (.sl 0)) (.ix (.ix (.sl 1) (.sl 4)) (.k (.int 1))))) .nil)))))
(.seq (.ret (.k (.bool false)))
.nil)
.nil)
.nil)))))
(.seq (.asg (.one 6) (.call "omega_paper" Fomega_paper .F (.cons (.cI (.sl 0)) (.cons (.cL (.blt .list (.cons (.sl 1) .nil))) .nil))))
(.seq (.ife (.cmp .NotEq (.cmp .Eq (.ix (.sl 6) (.k (.int 0))) (.k (.str "settings"))) (.call "_law_apart" F_law_apart .F (.cons (.sl 3) .nil)))
(.seq (.ret (.k (.bool false)))
.nil)
.nil)
(.seq (.ife (.cmp .Eq (.ix (.sl 6) (.k (.int 0))) (.k (.str "settings")))
(.seq (.ret (.cmp .Eq (.comp [("call", 10)] (.one 10) (.sl 1) (.prt (.cmp .NotEq (.call "_law_walked" F_law_walked .F (.cons (.cI (.sl 0)) (.cons (.ix (.sl 6) (.k (.int 1))) (.cons (.cI (.ix (.sl 10) (.k (.int 0)))) .nil)))) (.ix (.sl 10) (.k (.int 1))))) (.cI (.sl 10))) (.lst .nil)))
.nil)
.nil)
(.seq (.ret (.cmp .Eq (.ix (.ix (.sl 3) (.ix (.sl 6) (.k (.int 1)))) (.ari .Sub (.ix (.sl 6) (.k (.int 3))) (.k (.int 1)))) (.ix (.ix (.sl 3) (.ix (.sl 6) (.k (.int 2)))) (.ari .Sub (.ix (.sl 6) (.k (.int 3))) (.k (.int 1))))))
.nil))))))
def F_law_right : List D → R D := fnD T_law_right 11 3
def Tfewest_groups : S := (.seq (.ret (.blt .len (.cons (.call "least_groups" Fleast_groups .S (.cons (.call "ways_of" Fways_of .F (.cons (.cI (.sl 0)) (.cons (.sl 1) .nil))) .nil)) .nil)))
.nil)
def Ffewest_groups : List D → R D := fnD Tfewest_groups 2 2
def Tgroups_of : S := (.seq (.ret (.comp [("group", 2)] (.one 2) (.call "least_groups" Fleast_groups .S (.cons (.call "ways_of" Fways_of .F (.cons (.cI (.sl 0)) (.cons (.sl 1) .nil))) .nil)) .nop (.comp [("at", 3)] (.one 3) (.sl 2) .nop (.cI (.ix (.sl 1) (.sl 3))))))
.nil)
def Fgroups_of : List D → R D := fnD Tgroups_of 4 2
def T_law_right_groups : S := (.seq (.asg (.one 2) (.call "groups_of" Fgroups_of .F (.cons (.cI (.sl 0)) (.cons (.cL (.blt .list (.cons (.sl 1) .nil))) .nil))))
(.seq (.asg (.one 3) (.lst .nil))
(.seq (.forE (.one 4) (.sl 2) false [some (.S, true), some (.S, true), some (.S, false), some (.F, false), some (.S, false), some (.F, false), some (.F, false), some (.F, false)]
(.seq (.asg (.one 3) (.cL (.cat (.sl 3) (.sl 4))))
(.seq (.ife (.not (.call "_law_apart" F_law_apart .F (.cons (.comp [("a", 6), ("b", 7)] (.tup [6, 7]) (.sl 4) .nop (.call "_law_omega" F_law_omega .F (.cons (.cI (.sl 0)) (.cons (.cI (.sl 6)) (.cons (.cI (.sl 7)) .nil))))) .nil)))
(.seq (.ret (.k (.bool false)))
.nil)
.nil)
.nil)))
(.seq (.ife (.or (.cmp .NotEq (.pr1 .srp (.sl 3)) (.sl 1)) (.one (.cmp .NotEq (.call "fewest_groups" Ffewest_groups .F (.cons (.cI (.sl 0)) (.cons (.cL (.blt .list (.cons (.sl 1) .nil))) .nil))) (.blt .len (.cons (.sl 2) .nil)))))
(.seq (.ret (.k (.bool false)))
.nil)
.nil)
(.seq (.asg (.one 5) (.call "_law_apart" F_law_apart .F (.cons (.comp [("a", 6), ("b", 7)] (.tup [6, 7]) (.sl 1) .nop (.call "_law_omega" F_law_omega .F (.cons (.cI (.sl 0)) (.cons (.cI (.sl 6)) (.cons (.cI (.sl 7)) .nil))))) .nil)))
(.seq (.ret (.cmp .Eq (.cmp .LtE (.blt .len (.cons (.sl 2) .nil)) (.k (.int 1))) (.sl 5)))
.nil))))))
def F_law_right_groups : List D → R D := fnD T_law_right_groups 8 2
def Tlaw : S := (.seq (.asg (.one 1) (.call "_law_draws" F_law_draws .F (.cons (.sl 0) (.cons (.k (.int 60)) .nil))))
(.seq (.asg (.one 2) (.ari .Add (.k (.int 1)) (.ari .Mod (.ix (.sl 1) (.k (.int 0))) (.k (.int 3)))))
(.seq (.ife (.cmp .Eq (.ari .Mod (.ix (.sl 1) (.k (.int 1))) (.k (.int 16))) (.k (.int 5)))
(.seq (.asg (.one 2) (.ari .Add (.k (.int 4)) (.ari .Mod (.ix (.sl 1) (.k (.int 2))) (.k (.int 2)))))
.nil)
.nil)
(.seq (.asg (.one 3) (.ari .LShift (.k (.int 1)) (.sl 2)))
(.seq (.asg (.one 4) (.call "same_nets" Fsame_nets .F (.cons (.cI (.sl 2)) .nil)))
(.seq (.asg (.one 5) (.call "_law_order" F_law_order .F (.cons (.sl 1) (.cons (.k (.int 3)) (.cons (.cI (.sl 3)) .nil)))))
(.seq (.asg (.one 6) (.comp [("a", 12)] (.one 12) (.rng1 (.sl 3)) (.prt (.cmp .Gt (.ari .Mod (.ari .FloorDiv (.ix (.sl 1) (.ari .Add (.k (.int 36)) (.ari .Mod (.sl 12) (.k (.int 20))))) (.ari .Add (.k (.int 1)) (.sl 12))) (.k (.int 3))) (.k (.int 0)))) (.tup (.cons (.cI (.sl 12)) (.cons (.cI (.ix (.sl 5) (.sl 12))) .nil)))))
(.seq (.asg (.one 7) (.pr1 .srt (.slc (.sl 5) .nop (.prt (.ari .Mod (.ix (.sl 1) (.k (.int 40))) (.ari .Add (.sl 3) (.k (.int 1))))))))
(.seq (.asg (.one 8) (.ari .Mod (.ix (.sl 1) (.k (.int 41))) (.ari .Add (.ari .Sub (.sl 3) (.blt .len (.cons (.sl 7) .nil))) (.k (.int 1)))))
(.seq (.asg (.one 9) (.comp [("at", 13)] (.one 13) (.rng1 (.blt .len (.cons (.sl 7) .nil))) .nop (.tup (.cons (.ari .Add (.sl 8) (.sl 13)) (.cons (.cI (.ix (.sl 7) (.sl 13))) .nil)))))
(.seq (.asg (.one 10) (.call "shift_calls" Fshift_calls .F (.cons (.cI (.sl 2)) (.cons (.ari .Add (.ari .Mult (.k (.int 2)) (.ari .Mod (.ix (.sl 1) (.k (.int 42))) (.k (.int 8)))) (.k (.int 1))) (.cons (.ari .Sub (.ari .Mod (.ix (.sl 1) (.k (.int 43))) (.k (.int 40))) (.k (.int 20))) .nil)))))
(.seq (.ife (.cmp .NotEq (.sl 10) (.comp [("a", 12)] (.one 12) (.rng1 (.sl 3)) .nop (.tup (.cons (.cI (.sl 12)) (.cons (.ari .Mod (.ari .Sub (.ari .Add (.ari .Mult (.sl 12) (.ari .Add (.ari .Mult (.k (.int 2)) (.ari .Mod (.ix (.sl 1) (.k (.int 42))) (.k (.int 8)))) (.k (.int 1)))) (.ari .Mod (.ix (.sl 1) (.k (.int 43))) (.k (.int 40)))) (.k (.int 20))) (.sl 3)) .nil)))))
(.seq (.ret (.k (.bool false)))
.nil)
.nil)
(.seq (.forE (.one 11) (.lst (.cons (.sl 6) (.cons (.sl 9) (.cons (.sl 10) (.cons (.comp [("a", 12)] (.one 12) (.rng1 (.sl 3)) .nop (.tup (.cons (.cI (.sl 12)) (.cons (.cI (.ix (.sl 5) (.sl 12))) .nil)))) .nil))))) false [some (.S, true), some (.F, false), some (.F, false), some (.F, false), some (.F, false), some (.F, false), some (.S, false), some (.F, false), some (.F, false), some (.S, false), some (.S, false), some (.S, false), some (.F, false), some (.F, false)]
(.seq (.ife (.not (.call "_law_right" F_law_right .F (.cons (.cI (.sl 2)) (.cons (.sl 11) (.cons (.sl 4) .nil)))))
(.seq (.ret (.k (.bool false)))
.nil)
.nil)
.nil))
(.seq (.ife (.or (.cmp .IsNot (.call "is_close_and_rising" Fis_close_and_rising .F (.cons (.cI (.sl 2)) (.cons (.cL (.blt .list (.cons (.sl 9) .nil))) .nil))) (.k (.bool true))) (.or (.cmp .NotEq (.ix (.call "omega_paper" Fomega_paper .F (.cons (.cI (.sl 2)) (.cons (.cL (.blt .list (.cons (.sl 9) .nil))) .nil))) (.k (.int 0))) (.k (.str "settings"))) (.one (.cmp .NotEq (.ix (.call "omega_paper" Fomega_paper .F (.cons (.cI (.sl 2)) (.cons (.sl 10) .nil))) (.k (.int 0))) (.k (.str "settings"))))))
(.seq (.ret (.k (.bool false)))
.nil)
.nil)
(.seq (.ret (.or (.cmp .Gt (.sl 2) (.k (.int 3))) (.one (.and (.call "_law_right_groups" F_law_right_groups .F (.cons (.cI (.sl 2)) (.cons (.sl 6) .nil))) (.one (.call "_law_right_groups" F_law_right_groups .F (.cons (.cI (.sl 2)) (.cons (.sl 9) .nil))))))))
.nil)))))))))))))))
def Flaw : List D → R D := fnD Tlaw 14 1
end VS
set_option Elab.async false
set_option linter.all false
set_option maxRecDepth 100000
namespace VS
open PySem PySem.Spec L2
open PyProof.Rows hiding St
def topS (i : Nat) : Stmt := PySem.Challenge.pw_switchways_k94_across_omega_nets_and_but.main.body.getD i (.Pass ⟨0, 0, 0, 0⟩)
structure Fx (C : Ctx) : Prop where
  nb : C.nb = (["abs", "int", "len", "list", "range", "sorted", "sum"] : List Str)
  f_omega_lane : ∃ f fd, FunD C.K "omega_lane" "omega_lane" (defArgs (topS 1)) (defBody (topS 1)) (defScope (topS 1)) [] [] f fd ∧ C.mg "omega_lane" = some (.ref f)
  f_shuffled : ∃ f fd, FunD C.K "shuffled" "shuffled" (defArgs (topS 3)) (defBody (topS 3)) (defScope (topS 3)) [] [] f fd ∧ C.mg "shuffled" = some (.ref f)
  f_first_common : ∃ f fd, FunD C.K "first_common" "first_common" (defArgs (topS 5)) (defBody (topS 5)) (defScope (topS 5)) [] [] f fd ∧ C.mg "first_common" = some (.ref f)
  f_shift_calls : ∃ f fd, FunD C.K "shift_calls" "shift_calls" (defArgs (topS 9)) (defBody (topS 9)) (defScope (topS 9)) [] [] f fd ∧ C.mg "shift_calls" = some (.ref f)
  f_is_close_and_rising : ∃ f fd, FunD C.K "is_close_and_rising" "is_close_and_rising" (defArgs (topS 10)) (defBody (topS 10)) (defScope (topS 10)) [] [] f fd ∧ C.mg "is_close_and_rising" = some (.ref f)
  f_butterfly_lane : ∃ f fd, FunD C.K "butterfly_lane" "butterfly_lane" (defArgs (topS 12)) (defBody (topS 12)) (defScope (topS 12)) [] [] f fd ∧ C.mg "butterfly_lane" = some (.ref f)
  f_named_anew : ∃ f fd, FunD C.K "named_anew" "named_anew" (defArgs (topS 14)) (defBody (topS 14)) (defScope (topS 14)) [] [] f fd ∧ C.mg "named_anew" = some (.ref f)
  f_with_member : ∃ f fd, FunD C.K "with_member" "with_member" (defArgs (topS 19)) (defBody (topS 19)) (defScope (topS 19)) [] [] f fd ∧ C.mg "with_member" = some (.ref f)
  f__law_draws : ∃ f fd, FunD C.K "_law_draws" "_law_draws" (defArgs (topS 26)) (defBody (topS 26)) (defScope (topS 26)) [] [] f fd ∧ C.mg "_law_draws" = some (.ref f)
  f__law_order : ∃ f fd, FunD C.K "_law_order" "_law_order" (defArgs (topS 27)) (defBody (topS 27)) (defScope (topS 27)) [] [] f fd ∧ C.mg "_law_order" = some (.ref f)
  f__law_omega : ∃ f fd, FunD C.K "_law_omega" "_law_omega" (defArgs (topS 28)) (defBody (topS 28)) (defScope (topS 28)) [] [] f fd ∧ C.mg "_law_omega" = some (.ref f)
  f__law_fly : ∃ f fd, FunD C.K "_law_fly" "_law_fly" (defArgs (topS 29)) (defBody (topS 29)) (defScope (topS 29)) [] [] f fd ∧ C.mg "_law_fly" = some (.ref f)
  f__law_apart : ∃ f fd, FunD C.K "_law_apart" "_law_apart" (defArgs (topS 30)) (defBody (topS 30)) (defScope (topS 30)) [] [] f fd ∧ C.mg "_law_apart" = some (.ref f)
  f__law_walked : ∃ f fd, FunD C.K "_law_walked" "_law_walked" (defArgs (topS 31)) (defBody (topS 31)) (defScope (topS 31)) [] [] f fd ∧ C.mg "_law_walked" = some (.ref f)
  f_omega_way : ∃ f fd, FunD C.K "omega_way" "omega_way" (defArgs (topS 2)) (defBody (topS 2)) (defScope (topS 2)) [] [] f fd ∧ C.mg "omega_way" = some (.ref f)
  f_lanes_before : ∃ f fd, FunD C.K "lanes_before" "lanes_before" (defArgs (topS 4)) (defBody (topS 4)) (defScope (topS 4)) [] [] f fd ∧ C.mg "lanes_before" = some (.ref f)
  f_first_clash : ∃ f fd, FunD C.K "first_clash" "first_clash" (defArgs (topS 6)) (defBody (topS 6)) (defScope (topS 6)) [] [] f fd ∧ C.mg "first_clash" = some (.ref f)
  f_butterfly_way : ∃ f fd, FunD C.K "butterfly_way" "butterfly_way" (defArgs (topS 13)) (defBody (topS 13)) (defScope (topS 13)) [] [] f fd ∧ C.mg "butterfly_way" = some (.ref f)
  f_same_nets : ∃ f fd, FunD C.K "same_nets" "same_nets" (defArgs (topS 15)) (defBody (topS 15)) (defScope (topS 15)) [] [] f fd ∧ C.mg "same_nets" = some (.ref f)
  f_fits_group : ∃ f fd, FunD C.K "fits_group" "fits_group" (defArgs (topS 18)) (defBody (topS 18)) (defScope (topS 18)) [] [] f fd ∧ C.mg "fits_group" = some (.ref f)
  f_table_of : ∃ f fd, FunD C.K "table_of" "table_of" (defArgs (topS 7)) (defBody (topS 7)) (defScope (topS 7)) [] [] f fd ∧ C.mg "table_of" = some (.ref f)
  f_ways_of : ∃ f fd, FunD C.K "ways_of" "ways_of" (defArgs (topS 17)) (defBody (topS 17)) (defScope (topS 17)) [] [] f fd ∧ C.mg "ways_of" = some (.ref f)
  f_further_groups : ∃ f fd, FunD C.K "further_groups" "further_groups" (defArgs (topS 20)) (defBody (topS 20)) (defScope (topS 20)) [] [] f fd ∧ C.mg "further_groups" = some (.ref f)
  f_omega_paper : ∃ f fd, FunD C.K "omega_paper" "omega_paper" (defArgs (topS 8)) (defBody (topS 8)) (defScope (topS 8)) [] [] f fd ∧ C.mg "omega_paper" = some (.ref f)
  f_groups_into : ∃ f fd, FunD C.K "groups_into" "groups_into" (defArgs (topS 21)) (defBody (topS 21)) (defScope (topS 21)) [] [] f fd ∧ C.mg "groups_into" = some (.ref f)
  f_least_groups : ∃ f fd, FunD C.K "least_groups" "least_groups" (defArgs (topS 22)) (defBody (topS 22)) (defScope (topS 22)) [] [] f fd ∧ C.mg "least_groups" = some (.ref f)
  f__law_right : ∃ f fd, FunD C.K "_law_right" "_law_right" (defArgs (topS 32)) (defBody (topS 32)) (defScope (topS 32)) [] [] f fd ∧ C.mg "_law_right" = some (.ref f)
  f_fewest_groups : ∃ f fd, FunD C.K "fewest_groups" "fewest_groups" (defArgs (topS 23)) (defBody (topS 23)) (defScope (topS 23)) [] [] f fd ∧ C.mg "fewest_groups" = some (.ref f)
  f_groups_of : ∃ f fd, FunD C.K "groups_of" "groups_of" (defArgs (topS 24)) (defBody (topS 24)) (defScope (topS 24)) [] [] f fd ∧ C.mg "groups_of" = some (.ref f)
  f__law_right_groups : ∃ f fd, FunD C.K "_law_right_groups" "_law_right_groups" (defArgs (topS 33)) (defBody (topS 33)) (defScope (topS 33)) [] [] f fd ∧ C.mg "_law_right_groups" = some (.ref f)
  f_law : ∃ f fd, FunD C.K "law" "law" (defArgs (topS 34)) (defBody (topS 34)) (defScope (topS 34)) [] [] f fd ∧ C.mg "law" = some (.ref f)
theorem sc_omega_lane : FnScope ["k", "inlet", "outlet", "stage", "low"] ["k", "inlet", "outlet", "stage"] (defScope (topS 1)) := ⟨rfl, rfl, rfl, by decide +kernel, rfl, by decide +kernel, by decide +kernel⟩
theorem sc_shuffled : FnScope ["k", "lane", "half"] ["k", "lane"] (defScope (topS 3)) := ⟨rfl, rfl, rfl, by decide +kernel, rfl, by decide +kernel, by decide +kernel⟩
theorem sc_first_common : FnScope ["first", "second", "at"] ["first", "second"] (defScope (topS 5)) := ⟨rfl, rfl, rfl, by decide +kernel, rfl, by decide +kernel, by decide +kernel⟩
theorem sc_shift_calls : FnScope ["k", "times", "by", "size", "inlet"] ["k", "times", "by"] (defScope (topS 9)) := ⟨rfl, rfl, rfl, by decide +kernel, rfl, by decide +kernel, by decide +kernel⟩
theorem sc_is_close_and_rising : FnScope ["k", "calls", "at"] ["k", "calls"] (defScope (topS 10)) := ⟨rfl, rfl, rfl, by decide +kernel, rfl, by decide +kernel, by decide +kernel⟩
theorem sc_butterfly_lane : FnScope ["k", "inlet", "outlet", "stage", "low"] ["k", "inlet", "outlet", "stage"] (defScope (topS 12)) := ⟨rfl, rfl, rfl, by decide +kernel, rfl, by decide +kernel, by decide +kernel⟩
theorem sc_named_anew : FnScope ["k", "lane", "stage", "size"] ["k", "lane", "stage"] (defScope (topS 14)) := ⟨rfl, rfl, rfl, by decide +kernel, rfl, by decide +kernel, by decide +kernel⟩
theorem sc_with_member : FnScope ["groups", "place", "at"] ["groups", "place", "at"] (defScope (topS 19)) := ⟨rfl, rfl, rfl, by decide +kernel, rfl, by decide +kernel, by decide +kernel⟩
theorem sc__law_draws : FnScope ["script", "many", "found", "cell", "number", "k", "mixed", "base"] ["script", "many"] (defScope (topS 26)) := ⟨rfl, rfl, rfl, by decide +kernel, rfl, by decide +kernel, by decide +kernel⟩
theorem sc__law_order : FnScope ["draws", "at", "n", "free", "order", "k"] ["draws", "at", "n"] (defScope (topS 27)) := ⟨rfl, rfl, rfl, by decide +kernel, rfl, by decide +kernel, by decide +kernel⟩
theorem sc__law_omega : FnScope ["k", "inlet", "outlet", "size", "found", "lane", "t"] ["k", "inlet", "outlet"] (defScope (topS 28)) := ⟨rfl, rfl, rfl, by decide +kernel, rfl, by decide +kernel, by decide +kernel⟩
theorem sc__law_fly : FnScope ["k", "inlet", "outlet", "found", "lane", "t", "bit"] ["k", "inlet", "outlet"] (defScope (topS 29)) := ⟨rfl, rfl, rfl, by decide +kernel, rfl, by decide +kernel, by decide +kernel⟩
theorem sc__law_apart : FnScope ["ways", "j", "i", "t"] ["ways"] (defScope (topS 30)) := ⟨rfl, rfl, rfl, by decide +kernel, rfl, by decide +kernel, by decide +kernel⟩
theorem sc__law_walked : FnScope ["k", "table", "inlet", "size", "lane", "t"] ["k", "table", "inlet"] (defScope (topS 31)) := ⟨rfl, rfl, rfl, by decide +kernel, rfl, by decide +kernel, by decide +kernel⟩
theorem sc_omega_way : FnScope ["k", "inlet", "outlet", "stage"] ["k", "inlet", "outlet"] (defScope (topS 2)) := ⟨rfl, rfl, rfl, by decide +kernel, rfl, by decide +kernel, by decide +kernel⟩
theorem sc_lanes_before : FnScope ["k", "call", "stage"] ["k", "call"] (defScope (topS 4)) := ⟨rfl, rfl, rfl, by decide +kernel, rfl, by decide +kernel, by decide +kernel⟩
theorem sc_first_clash : FnScope ["ways", "a", "b", "at"] ["ways"] (defScope (topS 6)) := ⟨rfl, rfl, rfl, by decide +kernel, rfl, by decide +kernel, by decide +kernel⟩
theorem sc_butterfly_way : FnScope ["k", "inlet", "outlet", "stage"] ["k", "inlet", "outlet"] (defScope (topS 13)) := ⟨rfl, rfl, rfl, by decide +kernel, rfl, by decide +kernel, by decide +kernel⟩
theorem sc_same_nets : FnScope ["k", "stage", "lane"] ["k"] (defScope (topS 15)) := ⟨rfl, rfl, rfl, by decide +kernel, rfl, by decide +kernel, by decide +kernel⟩
theorem sc_fits_group : FnScope ["ways", "group", "at", "other"] ["ways", "group", "at"] (defScope (topS 18)) := ⟨rfl, rfl, rfl, by decide +kernel, rfl, by decide +kernel, by decide +kernel⟩
theorem sc_table_of : FnScope ["k", "calls", "table", "call", "before", "behind", "stage"] ["k", "calls"] (defScope (topS 7)) := ⟨rfl, rfl, rfl, by decide +kernel, rfl, by decide +kernel, by decide +kernel⟩
theorem sc_ways_of : FnScope ["k", "calls", "inlet", "outlet"] ["k", "calls"] (defScope (topS 17)) := ⟨rfl, rfl, rfl, by decide +kernel, rfl, by decide +kernel, by decide +kernel⟩
theorem sc_further_groups : FnScope ["ways", "groups", "at", "most", "found", "place"] ["ways", "groups", "at", "most"] (defScope (topS 20)) := ⟨rfl, rfl, rfl, by decide +kernel, rfl, by decide +kernel, by decide +kernel⟩
theorem sc_omega_paper : FnScope ["k", "calls", "clash", "inlet", "outlet"] ["k", "calls"] (defScope (topS 8)) := ⟨rfl, rfl, rfl, by decide +kernel, rfl, by decide +kernel, by decide +kernel⟩
theorem sc_groups_into : FnScope ["ways", "most", "waiting", "groups", "at", "group"] ["ways", "most"] (defScope (topS 21)) := ⟨rfl, rfl, rfl, by decide +kernel, rfl, by decide +kernel, by decide +kernel⟩
theorem sc_least_groups : FnScope ["ways", "most", "found"] ["ways"] (defScope (topS 22)) := ⟨rfl, rfl, rfl, by decide +kernel, rfl, by decide +kernel, by decide +kernel⟩
theorem sc__law_right : FnScope ["k", "calls", "names", "ways", "at", "sent", "paper", "a", "b", "t", "call"] ["k", "calls", "names"] (defScope (topS 32)) := ⟨rfl, rfl, rfl, by decide +kernel, rfl, by decide +kernel, by decide +kernel⟩
theorem sc_fewest_groups : FnScope ["k", "calls"] ["k", "calls"] (defScope (topS 23)) := ⟨rfl, rfl, rfl, by decide +kernel, rfl, by decide +kernel, by decide +kernel⟩
theorem sc_groups_of : FnScope ["k", "calls", "group", "at"] ["k", "calls"] (defScope (topS 24)) := ⟨rfl, rfl, rfl, by decide +kernel, rfl, by decide +kernel, by decide +kernel⟩
theorem sc__law_right_groups : FnScope ["k", "calls", "groups", "together", "group", "alone", "a", "b"] ["k", "calls"] (defScope (topS 33)) := ⟨rfl, rfl, rfl, by decide +kernel, rfl, by decide +kernel, by decide +kernel⟩
theorem sc_law : FnScope ["script", "draws", "k", "size", "names", "order", "some", "outlets", "start", "rising", "shift", "calls", "a", "at"] ["script"] (defScope (topS 34)) := ⟨rfl, rfl, rfl, by decide +kernel, rfl, by decide +kernel, by decide +kernel⟩
section
variable {C : Ctx} (X : Fx C)
include X
theorem v_omega_lane : FnV (C.lv 1) "omega_lane" Fomega_lane .F := by
  obtain ⟨f, fd, F, hm⟩ := X.f_omega_lane
  exact FnV.ofD (C := C.lv 0) F hm (F.bindsN fun _ _ _ _ _ _ us hl => match us, hl with | [_, _, _, _], _ => rfl) sc_omega_lane ⟨⟨trivial, ⟨trivial, trivial⟩⟩, ⟨⟨⟨⟨trivial, trivial⟩, ⟨trivial, trivial⟩⟩, ⟨trivial, trivial⟩⟩, trivial⟩⟩ (by decide) (by show csk C.nb _ _ _ = true; rw [X.nb]; decide +kernel) (r := none) (by decide +kernel)
theorem v_shuffled : FnV (C.lv 1) "shuffled" Fshuffled .F := by
  obtain ⟨f, fd, F, hm⟩ := X.f_shuffled
  exact FnV.ofD (C := C.lv 0) F hm (F.bindsN fun _ _ _ _ _ _ us hl => match us, hl with | [_, _], _ => rfl) sc_shuffled ⟨⟨trivial, ⟨trivial, trivial⟩⟩, ⟨⟨⟨⟨trivial, trivial⟩, trivial⟩, ⟨trivial, trivial⟩⟩, trivial⟩⟩ (by decide) (by show csk C.nb _ _ _ = true; rw [X.nb]; decide +kernel) (r := none) (by decide +kernel)
theorem v_first_common : FnV (C.lv 1) "first_common" Ffirst_common .F := by
  obtain ⟨f, fd, F, hm⟩ := X.f_first_common
  exact FnV.ofD (C := C.lv 0) F hm (F.bindsN fun _ _ _ _ _ _ us hl => match us, hl with | [_, _], _ => rfl) sc_first_common ⟨⟨⟨trivial, trivial⟩, ⟨⟨⟨⟨trivial, trivial⟩, ⟨trivial, trivial⟩⟩, ⟨trivial, trivial⟩, trivial⟩, trivial⟩⟩, ⟨trivial, trivial⟩⟩ (by decide) (by show csk C.nb _ _ _ = true; rw [X.nb]; decide +kernel) (r := none) (by decide +kernel)
theorem v_shift_calls : FnV (C.lv 1) "shift_calls" Fshift_calls .F := by
  obtain ⟨f, fd, F, hm⟩ := X.f_shift_calls
  exact FnV.ofD (C := C.lv 0) F hm (F.bindsN fun _ _ _ _ _ _ us hl => match us, hl with | [_, _, _], _ => rfl) sc_shift_calls ⟨⟨trivial, trivial⟩, ⟨⟨trivial, trivial, ⟨trivial, ⟨⟨⟨⟨trivial, trivial⟩, trivial⟩, trivial⟩, trivial⟩⟩⟩, trivial⟩⟩ (by decide) (by show csk C.nb _ _ _ = true; rw [X.nb]; decide +kernel) (r := none) (by decide +kernel)
theorem v_is_close_and_rising : FnV (C.lv 1) "is_close_and_rising" Fis_close_and_rising .F := by
  obtain ⟨f, fd, F, hm⟩ := X.f_is_close_and_rising
  exact FnV.ofD (C := C.lv 0) F hm (F.bindsN fun _ _ _ _ _ _ us hl => match us, hl with | [_, _], _ => rfl) sc_is_close_and_rising ⟨⟨⟨trivial, ⟨trivial, trivial⟩⟩, ⟨⟨⟨⟨⟨⟨trivial, trivial⟩, trivial⟩, ⟨⟨⟨trivial, ⟨trivial, trivial⟩⟩, trivial⟩, trivial⟩⟩, ⟨⟨⟨trivial, trivial⟩, trivial⟩, ⟨⟨trivial, ⟨trivial, trivial⟩⟩, trivial⟩⟩⟩, ⟨trivial, trivial⟩, trivial⟩, trivial⟩⟩, ⟨trivial, trivial⟩⟩ (by decide) (by show csk C.nb _ _ _ = true; rw [X.nb]; decide +kernel) (r := none) (by decide +kernel)
theorem v_butterfly_lane : FnV (C.lv 1) "butterfly_lane" Fbutterfly_lane .F := by
  obtain ⟨f, fd, F, hm⟩ := X.f_butterfly_lane
  exact FnV.ofD (C := C.lv 0) F hm (F.bindsN fun _ _ _ _ _ _ us hl => match us, hl with | [_, _, _, _], _ => rfl) sc_butterfly_lane ⟨⟨trivial, ⟨trivial, trivial⟩⟩, ⟨⟨⟨⟨trivial, trivial⟩, trivial⟩, ⟨trivial, trivial⟩⟩, trivial⟩⟩ (by decide) (by show csk C.nb _ _ _ = true; rw [X.nb]; decide +kernel) (r := none) (by decide +kernel)
theorem v_named_anew : FnV (C.lv 1) "named_anew" Fnamed_anew .F := by
  obtain ⟨f, fd, F, hm⟩ := X.f_named_anew
  exact FnV.ofD (C := C.lv 0) F hm (F.bindsN fun _ _ _ _ _ _ us hl => match us, hl with | [_, _, _], _ => rfl) sc_named_anew ⟨⟨trivial, trivial⟩, ⟨⟨⟨⟨trivial, trivial⟩, ⟨trivial, ⟨trivial, trivial⟩⟩⟩, ⟨trivial, trivial⟩⟩, trivial⟩⟩ (by decide) (by show csk C.nb _ _ _ = true; rw [X.nb]; decide +kernel) (r := none) (by decide +kernel)
theorem v_with_member : FnV (C.lv 1) "with_member" Fwith_member (.L .S) := by
  obtain ⟨f, fd, F, hm⟩ := X.f_with_member
  exact FnV.ofD (C := C.lv 0) F hm (F.bindsN fun _ _ _ _ _ _ us hl => match us, hl with | [_, _, _], _ => rfl) sc_with_member ⟨⟨⟨⟨trivial, trivial, trivial⟩, ⟨⟨⟨trivial, trivial⟩, ⟨trivial, trivial⟩⟩, trivial⟩⟩, ⟨trivial, ⟨trivial, trivial⟩, trivial⟩⟩, trivial⟩ (by decide) (by show csk C.nb _ _ _ = true; rw [X.nb]; decide +kernel) (r := none) (by decide +kernel)
theorem v__law_draws : FnV (C.lv 1) "_law_draws" F_law_draws .F := by
  obtain ⟨f, fd, F, hm⟩ := X.f__law_draws
  exact FnV.ofD (C := C.lv 0) F hm (F.bindsN fun _ _ _ _ _ _ us hl => match us, hl with | [_, _], _ => rfl) sc__law_draws ⟨trivial, ⟨⟨⟨trivial, trivial, trivial⟩, ⟨⟨⟨trivial, trivial⟩, trivial⟩, ⟨⟨⟨trivial, ⟨trivial, trivial⟩⟩, ⟨⟨trivial, ⟨⟨⟨trivial, trivial⟩, ⟨⟨trivial, ⟨⟨trivial, trivial⟩, trivial⟩⟩, ⟨⟨trivial, trivial⟩, trivial⟩⟩, trivial⟩, trivial⟩⟩, trivial⟩, ⟨⟨⟨⟨⟨trivial, trivial⟩, ⟨trivial, ⟨trivial, trivial⟩⟩⟩, trivial⟩, trivial⟩, ⟨⟨trivial, ⟨⟨⟨⟨⟨⟨trivial, trivial⟩, ⟨trivial, trivial⟩⟩, ⟨trivial, trivial⟩⟩, trivial⟩, trivial⟩, ⟨⟨trivial, ⟨⟨⟨trivial, trivial⟩, trivial⟩, trivial⟩⟩, trivial⟩⟩⟩, trivial⟩⟩⟩, trivial⟩⟩⟩, ⟨⟨trivial, ⟨⟨⟨⟨trivial, trivial⟩, trivial⟩, ⟨trivial, ⟨⟨⟨⟨trivial, trivial⟩, trivial⟩, ⟨⟨trivial, ⟨trivial, ⟨trivial, trivial⟩⟩⟩, trivial⟩, trivial⟩, ⟨⟨trivial, ⟨⟨⟨⟨⟨trivial, trivial⟩, ⟨trivial, ⟨trivial, trivial⟩⟩⟩, trivial⟩, trivial⟩, trivial⟩⟩, trivial⟩⟩⟩, trivial⟩, trivial⟩⟩, ⟨⟨trivial, trivial, trivial⟩, trivial⟩⟩⟩⟩ (by decide) (by show csk C.nb _ _ _ = true; rw [X.nb]; decide +kernel) (r := none) (by decide +kernel)
theorem v__law_order : FnV (C.lv 1) "_law_order" F_law_order .F := by
  obtain ⟨f, fd, F, hm⟩ := X.f__law_order
  exact FnV.ofD (C := C.lv 0) F hm (F.bindsN fun _ _ _ _ _ _ us hl => match us, hl with | [_, _, _], _ => rfl) sc__law_order ⟨trivial, ⟨trivial, ⟨⟨trivial, ⟨⟨⟨⟨trivial, ⟨trivial, trivial⟩⟩, ⟨trivial, ⟨trivial, trivial⟩⟩⟩, ⟨trivial, trivial⟩⟩, trivial⟩⟩, ⟨trivial, trivial⟩⟩⟩⟩ (by decide) (by show csk C.nb _ _ _ = true; rw [X.nb]; decide +kernel) (r := none) (by decide +kernel)
theorem v__law_omega : FnV (C.lv 1) "_law_omega" F_law_omega .F := by
  obtain ⟨f, fd, F, hm⟩ := X.f__law_omega
  exact FnV.ofD (C := C.lv 0) F hm (F.bindsN fun _ _ _ _ _ _ us hl => match us, hl with | [_, _, _], _ => rfl) sc__law_omega ⟨⟨trivial, trivial⟩, ⟨trivial, ⟨trivial, ⟨⟨trivial, ⟨⟨⟨⟨trivial, trivial⟩, ⟨⟨trivial, ⟨⟨trivial, trivial⟩, trivial⟩⟩, trivial⟩⟩, trivial⟩, ⟨⟨trivial, ⟨trivial, trivial⟩⟩, trivial⟩⟩⟩, ⟨trivial, trivial⟩⟩⟩⟩⟩ (by decide) (by show csk C.nb _ _ _ = true; rw [X.nb]; decide +kernel) (r := none) (by decide +kernel)
theorem v__law_fly : FnV (C.lv 1) "_law_fly" F_law_fly .F := by
  obtain ⟨f, fd, F, hm⟩ := X.f__law_fly
  exact FnV.ofD (C := C.lv 0) F hm (F.bindsN fun _ _ _ _ _ _ us hl => match us, hl with | [_, _, _], _ => rfl) sc__law_fly ⟨trivial, ⟨trivial, ⟨⟨trivial, ⟨⟨trivial, ⟨⟨trivial, trivial⟩, trivial⟩⟩, ⟨⟨⟨⟨trivial, ⟨trivial, ⟨trivial, trivial⟩⟩⟩, ⟨⟨trivial, ⟨trivial, trivial⟩⟩, ⟨trivial, trivial⟩⟩⟩, ⟨trivial, trivial⟩⟩, ⟨⟨trivial, ⟨trivial, trivial⟩⟩, trivial⟩⟩⟩⟩, ⟨trivial, trivial⟩⟩⟩⟩ (by decide) (by show csk C.nb _ _ _ = true; rw [X.nb]; decide +kernel) (r := none) (by decide +kernel)
theorem v__law_apart : FnV (C.lv 1) "_law_apart" F_law_apart .F := by
  obtain ⟨f, fd, F, hm⟩ := X.f__law_apart
  exact FnV.ofD (C := C.lv 0) F hm (F.bindsN fun _ _ _ _ _ _ us hl => match us, hl with | [_], _ => rfl) sc__law_apart ⟨⟨⟨trivial, trivial⟩, ⟨⟨trivial, ⟨⟨⟨⟨⟨⟨trivial, trivial⟩, trivial⟩, ⟨⟨⟨trivial, trivial⟩, trivial⟩, ⟨⟨trivial, trivial⟩, trivial⟩⟩, trivial⟩, trivial⟩, ⟨trivial, trivial⟩, trivial⟩, trivial⟩⟩, trivial⟩⟩, ⟨trivial, trivial⟩⟩ (by decide) (by show csk C.nb _ _ _ = true; rw [X.nb]; decide +kernel) (r := none) (by decide +kernel)
theorem v__law_walked : FnV (C.lv 1) "_law_walked" F_law_walked .F := by
  obtain ⟨f, fd, F, hm⟩ := X.f__law_walked
  exact FnV.ofD (C := C.lv 0) F hm (F.bindsN fun _ _ _ _ _ _ us hl => match us, hl with | [_, _, _], _ => rfl) sc__law_walked ⟨⟨trivial, trivial⟩, ⟨trivial, ⟨⟨trivial, ⟨⟨⟨⟨trivial, trivial⟩, ⟨⟨trivial, trivial⟩, trivial⟩⟩, trivial⟩, ⟨⟨⟨⟨⟨trivial, trivial⟩, ⟨trivial, trivial⟩⟩, trivial⟩, ⟨trivial, trivial⟩, trivial⟩, ⟨⟨⟨⟨trivial, trivial⟩, ⟨trivial, trivial⟩⟩, ⟨⟨⟨trivial, trivial⟩, ⟨trivial, ⟨trivial, trivial⟩⟩⟩, trivial⟩, trivial⟩, trivial⟩⟩⟩⟩, ⟨trivial, trivial⟩⟩⟩⟩ (by decide) (by show csk C.nb _ _ _ = true; rw [X.nb]; decide +kernel) (r := none) (by decide +kernel)
theorem v_omega_way : FnV (C.lv 2) "omega_way" Fomega_way .F := by
  obtain ⟨f, fd, F, hm⟩ := X.f_omega_way
  exact FnV.ofD (C := C.lv 1) F hm (F.bindsN fun _ _ _ _ _ _ us hl => match us, hl with | [_, _, _], _ => rfl) sc_omega_way ⟨⟨⟨trivial, ⟨trivial, trivial⟩⟩, trivial, ⟨(v_omega_lane X).up rfl, ⟨trivial, ⟨trivial, ⟨trivial, ⟨trivial, trivial⟩⟩⟩⟩⟩⟩, trivial⟩ (by decide) (by show csk C.nb _ _ _ = true; rw [X.nb]; decide +kernel) (r := none) (by decide +kernel)
theorem v_lanes_before : FnV (C.lv 2) "lanes_before" Flanes_before .F := by
  obtain ⟨f, fd, F, hm⟩ := X.f_lanes_before
  exact FnV.ofD (C := C.lv 1) F hm (F.bindsN fun _ _ _ _ _ _ us hl => match us, hl with | [_, _], _ => rfl) sc_lanes_before ⟨⟨trivial, trivial, ⟨(v_shuffled X).up rfl, ⟨trivial, ⟨⟨(v_omega_lane X).up rfl, ⟨trivial, ⟨⟨trivial, trivial⟩, ⟨⟨trivial, trivial⟩, ⟨trivial, trivial⟩⟩⟩⟩⟩, trivial⟩⟩⟩⟩, trivial⟩ (by decide) (by show csk C.nb _ _ _ = true; rw [X.nb]; decide +kernel) (r := none) (by decide +kernel)
theorem v_first_clash : FnV (C.lv 2) "first_clash" Ffirst_clash .F := by
  obtain ⟨f, fd, F, hm⟩ := X.f_first_clash
  exact FnV.ofD (C := C.lv 1) F hm (F.bindsN fun _ _ _ _ _ _ us hl => match us, hl with | [_], _ => rfl) sc_first_clash ⟨⟨⟨trivial, trivial⟩, ⟨⟨⟨⟨trivial, trivial⟩, ⟨trivial, trivial⟩⟩, ⟨⟨(v_first_common X).up rfl, ⟨⟨trivial, trivial⟩, ⟨⟨trivial, trivial⟩, trivial⟩⟩⟩, ⟨⟨⟨trivial, trivial⟩, ⟨⟨trivial, ⟨trivial, ⟨trivial, trivial⟩⟩⟩, trivial⟩, trivial⟩, trivial⟩⟩⟩, trivial⟩⟩, ⟨trivial, trivial⟩⟩ (by decide) (by show csk C.nb _ _ _ = true; rw [X.nb]; decide +kernel) (r := none) (by decide +kernel)
theorem v_butterfly_way : FnV (C.lv 2) "butterfly_way" Fbutterfly_way .F := by
  obtain ⟨f, fd, F, hm⟩ := X.f_butterfly_way
  exact FnV.ofD (C := C.lv 1) F hm (F.bindsN fun _ _ _ _ _ _ us hl => match us, hl with | [_, _, _], _ => rfl) sc_butterfly_way ⟨⟨⟨trivial, ⟨trivial, trivial⟩⟩, trivial, ⟨(v_butterfly_lane X).up rfl, ⟨trivial, ⟨trivial, ⟨trivial, ⟨trivial, trivial⟩⟩⟩⟩⟩⟩, trivial⟩ (by decide) (by show csk C.nb _ _ _ = true; rw [X.nb]; decide +kernel) (r := none) (by decide +kernel)
theorem v_same_nets : FnV (C.lv 2) "same_nets" Fsame_nets .F := by
  obtain ⟨f, fd, F, hm⟩ := X.f_same_nets
  exact FnV.ofD (C := C.lv 1) F hm (F.bindsN fun _ _ _ _ _ _ us hl => match us, hl with | [_], _ => rfl) sc_same_nets ⟨⟨⟨trivial, trivial⟩, trivial, ⟨⟨trivial, trivial⟩, trivial, ⟨(v_named_anew X).up rfl, ⟨trivial, ⟨trivial, ⟨trivial, trivial⟩⟩⟩⟩⟩⟩, trivial⟩ (by decide) (by show csk C.nb _ _ _ = true; rw [X.nb]; decide +kernel) (r := none) (by decide +kernel)
theorem v_fits_group : FnV (C.lv 2) "fits_group" Ffits_group .F := by
  obtain ⟨f, fd, F, hm⟩ := X.f_fits_group
  exact FnV.ofD (C := C.lv 1) F hm (F.bindsN fun _ _ _ _ _ _ us hl => match us, hl with | [_, _, _], _ => rfl) sc_fits_group ⟨⟨trivial, ⟨⟨⟨⟨(v_first_common X).up rfl, ⟨⟨trivial, trivial⟩, ⟨⟨trivial, trivial⟩, trivial⟩⟩⟩, trivial⟩, ⟨trivial, trivial⟩, trivial⟩, trivial⟩⟩, ⟨trivial, trivial⟩⟩ (by decide) (by show csk C.nb _ _ _ = true; rw [X.nb]; decide +kernel) (r := none) (by decide +kernel)
theorem v_table_of : FnV (C.lv 3) "table_of" Ftable_of .F := by
  obtain ⟨f, fd, F, hm⟩ := X.f_table_of
  exact FnV.ofD (C := C.lv 2) F hm (F.bindsN fun _ _ _ _ _ _ us hl => match us, hl with | [_, _], _ => rfl) sc_table_of ⟨⟨trivial, trivial, ⟨⟨trivial, trivial⟩, ⟨trivial, ⟨trivial, trivial⟩⟩⟩⟩, ⟨⟨trivial, ⟨⟨⟨(v_lanes_before X).up rfl, ⟨trivial, ⟨trivial, trivial⟩⟩⟩, ⟨⟨(v_omega_way X).up rfl, ⟨trivial, ⟨⟨trivial, trivial⟩, ⟨⟨trivial, trivial⟩, trivial⟩⟩⟩⟩, trivial⟩⟩, ⟨⟨trivial, ⟨⟨⟨trivial, trivial⟩, ⟨⟨trivial, trivial⟩, trivial⟩, ⟨⟨⟨trivial, trivial⟩, trivial⟩, ⟨⟨trivial, trivial⟩, trivial⟩⟩⟩, trivial⟩⟩, trivial⟩⟩⟩, ⟨trivial, trivial⟩⟩⟩ (by decide) (by show csk C.nb _ _ _ = true; rw [X.nb]; decide +kernel) (r := none) (by decide +kernel)
theorem v_ways_of : FnV (C.lv 3) "ways_of" Fways_of .F := by
  obtain ⟨f, fd, F, hm⟩ := X.f_ways_of
  exact FnV.ofD (C := C.lv 2) F hm (F.bindsN fun _ _ _ _ _ _ us hl => match us, hl with | [_, _], _ => rfl) sc_ways_of ⟨⟨trivial, trivial, ⟨(v_omega_way X).up rfl, ⟨trivial, ⟨trivial, ⟨trivial, trivial⟩⟩⟩⟩⟩, trivial⟩ (by decide) (by show csk C.nb _ _ _ = true; rw [X.nb]; decide +kernel) (r := none) (by decide +kernel)
theorem v_further_groups : FnV (C.lv 3) "further_groups" Ffurther_groups (.L (.L .S)) := by
  obtain ⟨f, fd, F, hm⟩ := X.f_further_groups
  exact FnV.ofD (C := C.lv 2) F hm (F.bindsN fun _ _ _ _ _ _ us hl => match us, hl with | [_, _, _, _], _ => rfl) sc_further_groups ⟨trivial, ⟨⟨⟨⟨trivial, trivial⟩, trivial⟩, ⟨⟨trivial, ⟨⟨trivial, ⟨⟨trivial, trivial⟩, trivial⟩⟩, trivial⟩⟩, trivial⟩, trivial⟩, ⟨⟨⟨trivial, trivial⟩, ⟨⟨⟨(v_fits_group X).up rfl, ⟨trivial, ⟨⟨trivial, trivial⟩, ⟨trivial, trivial⟩⟩⟩⟩, ⟨⟨trivial, ⟨⟨(v_with_member X).up rfl, ⟨trivial, ⟨trivial, ⟨trivial, trivial⟩⟩⟩⟩, trivial⟩⟩, trivial⟩, trivial⟩, trivial⟩⟩, ⟨trivial, trivial⟩⟩⟩⟩ (by decide) (by show csk C.nb _ _ _ = true; rw [X.nb]; decide +kernel) (r := none) (by decide +kernel)
theorem v_omega_paper : FnV (C.lv 4) "omega_paper" Fomega_paper .F := by
  obtain ⟨f, fd, F, hm⟩ := X.f_omega_paper
  exact FnV.ofD (C := C.lv 3) F hm (F.bindsN fun _ _ _ _ _ _ us hl => match us, hl with | [_, _], _ => rfl) sc_omega_paper ⟨⟨(v_first_clash X).up rfl, ⟨⟨trivial, trivial, ⟨(v_omega_way X).up rfl, ⟨trivial, ⟨trivial, ⟨trivial, trivial⟩⟩⟩⟩⟩, trivial⟩⟩, ⟨⟨⟨trivial, trivial⟩, ⟨⟨trivial, ⟨⟨trivial, trivial⟩, ⟨⟨trivial, trivial⟩, ⟨⟨⟨trivial, trivial⟩, trivial⟩, trivial⟩⟩⟩⟩, trivial⟩, trivial⟩, ⟨⟨trivial, ⟨⟨(v_table_of X).up rfl, ⟨trivial, ⟨trivial, trivial⟩⟩⟩, trivial⟩⟩, trivial⟩⟩⟩ (by decide) (by show csk C.nb _ _ _ = true; rw [X.nb]; decide +kernel) (r := none) (by decide +kernel)
theorem v_groups_into : FnV (C.lv 4) "groups_into" Fgroups_into .S := by
  obtain ⟨f, fd, F, hm⟩ := X.f_groups_into
  exact FnV.ofD (C := C.lv 3) F hm (F.bindsN fun _ _ _ _ _ _ us hl => match us, hl with | [_, _], _ => rfl) sc_groups_into ⟨⟨trivial, trivial⟩, ⟨⟨⟨⟨trivial, trivial⟩, trivial⟩, ⟨trivial, ⟨⟨⟨trivial, trivial, ⟨trivial, trivial⟩⟩, trivial⟩, ⟨⟨⟨trivial, ⟨trivial, trivial⟩⟩, ⟨trivial, trivial⟩, trivial⟩, ⟨⟨trivial, ⟨(v_further_groups X).up rfl, ⟨trivial, ⟨trivial, ⟨trivial, ⟨trivial, trivial⟩⟩⟩⟩⟩⟩, trivial⟩⟩⟩⟩⟩, ⟨trivial, trivial⟩⟩⟩ (by decide) (by show csk C.nb _ _ _ = true; rw [X.nb]; decide +kernel) (r := none) (by decide +kernel)
theorem v_least_groups : FnV (C.lv 5) "least_groups" Fleast_groups .S := by
  obtain ⟨f, fd, F, hm⟩ := X.f_least_groups
  exact FnV.ofD (C := C.lv 4) F hm (F.bindsN fun _ _ _ _ _ _ us hl => match us, hl with | [_], _ => rfl) sc_least_groups ⟨trivial, ⟨⟨(v_groups_into X).up rfl, ⟨trivial, ⟨trivial, trivial⟩⟩⟩, ⟨⟨⟨trivial, trivial⟩, ⟨⟨trivial, trivial⟩, ⟨⟨(v_groups_into X).up rfl, ⟨trivial, ⟨trivial, trivial⟩⟩⟩, trivial⟩⟩⟩, ⟨trivial, trivial⟩⟩⟩⟩ (by decide) (by show csk C.nb _ _ _ = true; rw [X.nb]; decide +kernel) (r := none) (by decide +kernel)
theorem v__law_right : FnV (C.lv 5) "_law_right" F_law_right .F := by
  obtain ⟨f, fd, F, hm⟩ := X.f__law_right
  exact FnV.ofD (C := C.lv 4) F hm (F.bindsN fun _ _ _ _ _ _ us hl => match us, hl with | [_, _, _], _ => rfl) sc__law_right ⟨⟨trivial, trivial, ⟨(v__law_omega X).up rfl, ⟨trivial, ⟨trivial, ⟨trivial, trivial⟩⟩⟩⟩⟩, ⟨⟨⟨trivial, trivial⟩, ⟨⟨⟨⟨(v_omega_way X).up rfl, ⟨trivial, ⟨⟨⟨trivial, trivial⟩, trivial⟩, ⟨⟨⟨trivial, trivial⟩, trivial⟩, trivial⟩⟩⟩⟩, ⟨trivial, trivial⟩⟩, ⟨trivial, trivial⟩, trivial⟩, ⟨⟨⟨⟨(v_butterfly_way X).up rfl, ⟨trivial, ⟨⟨⟨trivial, trivial⟩, trivial⟩, ⟨⟨⟨trivial, trivial⟩, trivial⟩, trivial⟩⟩⟩⟩, ⟨(v__law_fly X).up rfl, ⟨trivial, ⟨⟨⟨trivial, trivial⟩, trivial⟩, ⟨⟨⟨trivial, trivial⟩, trivial⟩, trivial⟩⟩⟩⟩⟩, ⟨trivial, trivial⟩, trivial⟩, ⟨⟨trivial, trivial, ⟨⟨trivial, ⟨trivial, trivial⟩⟩, ⟨⟨trivial, trivial⟩, trivial⟩⟩⟩, ⟨⟨⟨trivial, ⟨(v__law_fly X).up rfl, ⟨trivial, ⟨⟨⟨trivial, trivial⟩, ⟨⟨trivial, trivial⟩, trivial⟩⟩, ⟨⟨⟨trivial, trivial⟩, ⟨⟨trivial, trivial⟩, trivial⟩⟩, trivial⟩⟩⟩⟩⟩, ⟨trivial, trivial⟩, trivial⟩, trivial⟩⟩⟩⟩⟩, ⟨⟨(v_omega_paper X).up rfl, ⟨trivial, ⟨⟨trivial, trivial⟩, trivial⟩⟩⟩, ⟨⟨⟨⟨⟨trivial, trivial⟩, trivial⟩, ⟨(v__law_apart X).up rfl, ⟨trivial, trivial⟩⟩⟩, ⟨trivial, trivial⟩, trivial⟩, ⟨⟨⟨⟨trivial, trivial⟩, trivial⟩, ⟨⟨⟨trivial, ⟨⟨(v__law_walked X).up rfl, ⟨trivial, ⟨⟨trivial, trivial⟩, ⟨⟨trivial, trivial⟩, trivial⟩⟩⟩⟩, ⟨trivial, trivial⟩⟩, trivial⟩, trivial⟩, trivial⟩, trivial⟩, ⟨⟨⟨⟨trivial, ⟨trivial, trivial⟩⟩, ⟨⟨trivial, trivial⟩, trivial⟩⟩, ⟨⟨trivial, ⟨trivial, trivial⟩⟩, ⟨⟨trivial, trivial⟩, trivial⟩⟩⟩, trivial⟩⟩⟩⟩⟩⟩ (by decide) (by show csk C.nb _ _ _ = true; rw [X.nb]; decide +kernel) (r := none) (by decide +kernel)
theorem v_fewest_groups : FnV (C.lv 6) "fewest_groups" Ffewest_groups .F := by
  obtain ⟨f, fd, F, hm⟩ := X.f_fewest_groups
  exact FnV.ofD (C := C.lv 5) F hm (F.bindsN fun _ _ _ _ _ _ us hl => match us, hl with | [_, _], _ => rfl) sc_fewest_groups ⟨⟨⟨(v_least_groups X).up rfl, ⟨⟨(v_ways_of X).up rfl, ⟨trivial, ⟨trivial, trivial⟩⟩⟩, trivial⟩⟩, trivial⟩, trivial⟩ (by decide) (by show csk C.nb _ _ _ = true; rw [X.nb]; decide +kernel) (r := none) (by decide +kernel)
theorem v_groups_of : FnV (C.lv 6) "groups_of" Fgroups_of .F := by
  obtain ⟨f, fd, F, hm⟩ := X.f_groups_of
  exact FnV.ofD (C := C.lv 5) F hm (F.bindsN fun _ _ _ _ _ _ us hl => match us, hl with | [_, _], _ => rfl) sc_groups_of ⟨⟨⟨(v_least_groups X).up rfl, ⟨⟨(v_ways_of X).up rfl, ⟨trivial, ⟨trivial, trivial⟩⟩⟩, trivial⟩⟩, trivial, ⟨trivial, trivial, ⟨trivial, trivial⟩⟩⟩, trivial⟩ (by decide) (by show csk C.nb _ _ _ = true; rw [X.nb]; decide +kernel) (r := none) (by decide +kernel)
theorem v__law_right_groups : FnV (C.lv 7) "_law_right_groups" F_law_right_groups .F := by
  obtain ⟨f, fd, F, hm⟩ := X.f__law_right_groups
  exact FnV.ofD (C := C.lv 6) F hm (F.bindsN fun _ _ _ _ _ _ us hl => match us, hl with | [_, _], _ => rfl) sc__law_right_groups ⟨⟨(v_groups_of X).up rfl, ⟨trivial, ⟨⟨trivial, trivial⟩, trivial⟩⟩⟩, ⟨trivial, ⟨⟨trivial, ⟨⟨trivial, trivial⟩, ⟨⟨⟨(v__law_apart X).up rfl, ⟨⟨trivial, trivial, ⟨(v__law_omega X).up rfl, ⟨trivial, ⟨trivial, ⟨trivial, trivial⟩⟩⟩⟩⟩, trivial⟩⟩, ⟨trivial, trivial⟩, trivial⟩, trivial⟩⟩⟩, ⟨⟨⟨⟨trivial, trivial⟩, ⟨⟨(v_fewest_groups X).up rfl, ⟨trivial, ⟨⟨trivial, trivial⟩, trivial⟩⟩⟩, ⟨trivial, trivial⟩⟩⟩, ⟨trivial, trivial⟩, trivial⟩, ⟨⟨(v__law_apart X).up rfl, ⟨⟨trivial, trivial, ⟨(v__law_omega X).up rfl, ⟨trivial, ⟨trivial, ⟨trivial, trivial⟩⟩⟩⟩⟩, trivial⟩⟩, ⟨⟨⟨⟨trivial, trivial⟩, trivial⟩, trivial⟩, trivial⟩⟩⟩⟩⟩⟩ (by decide) (by show csk C.nb _ _ _ = true; rw [X.nb]; decide +kernel) (r := none) (by decide +kernel)
theorem os_law : okS (C.lv 7) Tlaw := ⟨⟨(v__law_draws X).up rfl, ⟨trivial, ⟨trivial, trivial⟩⟩⟩, ⟨⟨trivial, ⟨⟨trivial, trivial⟩, trivial⟩⟩, ⟨⟨⟨⟨⟨trivial, trivial⟩, trivial⟩, trivial⟩, ⟨⟨trivial, ⟨⟨trivial, trivial⟩, trivial⟩⟩, trivial⟩, trivial⟩, ⟨⟨trivial, trivial⟩, ⟨⟨(v_same_nets X).up rfl, ⟨trivial, trivial⟩⟩, ⟨⟨(v__law_order X).up rfl, ⟨trivial, ⟨trivial, ⟨trivial, trivial⟩⟩⟩⟩, ⟨⟨trivial, ⟨⟨⟨⟨trivial, ⟨trivial, ⟨trivial, trivial⟩⟩⟩, ⟨trivial, trivial⟩⟩, trivial⟩, trivial⟩, ⟨trivial, ⟨⟨trivial, trivial⟩, trivial⟩⟩⟩, ⟨⟨trivial, trivial, ⟨⟨trivial, trivial⟩, ⟨trivial, trivial⟩⟩⟩, ⟨⟨⟨trivial, trivial⟩, ⟨⟨trivial, ⟨trivial, trivial⟩⟩, trivial⟩⟩, ⟨⟨⟨trivial, trivial⟩, trivial, ⟨⟨trivial, trivial⟩, ⟨⟨trivial, trivial⟩, trivial⟩⟩⟩, ⟨⟨(v_shift_calls X).up rfl, ⟨trivial, ⟨⟨⟨trivial, ⟨⟨trivial, trivial⟩, trivial⟩⟩, trivial⟩, ⟨⟨⟨⟨trivial, trivial⟩, trivial⟩, trivial⟩, trivial⟩⟩⟩⟩, ⟨⟨⟨trivial, ⟨trivial, trivial, ⟨trivial, ⟨⟨⟨⟨⟨trivial, ⟨⟨trivial, ⟨⟨trivial, trivial⟩, trivial⟩⟩, trivial⟩⟩, ⟨⟨trivial, trivial⟩, trivial⟩⟩, trivial⟩, trivial⟩, trivial⟩⟩⟩⟩, ⟨trivial, trivial⟩, trivial⟩, ⟨⟨⟨trivial, ⟨trivial, ⟨trivial, ⟨⟨trivial, trivial, ⟨trivial, ⟨⟨trivial, trivial⟩, trivial⟩⟩⟩, trivial⟩⟩⟩⟩, ⟨⟨⟨(v__law_right X).up rfl, ⟨trivial, ⟨trivial, ⟨trivial, trivial⟩⟩⟩⟩, ⟨trivial, trivial⟩, trivial⟩, trivial⟩⟩, ⟨⟨⟨⟨⟨(v_is_close_and_rising X).up rfl, ⟨trivial, ⟨⟨trivial, trivial⟩, trivial⟩⟩⟩, trivial⟩, ⟨⟨⟨⟨(v_omega_paper X).up rfl, ⟨trivial, ⟨⟨trivial, trivial⟩, trivial⟩⟩⟩, trivial⟩, trivial⟩, ⟨⟨⟨(v_omega_paper X).up rfl, ⟨trivial, ⟨trivial, trivial⟩⟩⟩, trivial⟩, trivial⟩⟩⟩, ⟨trivial, trivial⟩, trivial⟩, ⟨⟨⟨trivial, trivial⟩, ⟨⟨(v__law_right_groups X).up rfl, ⟨trivial, ⟨trivial, trivial⟩⟩⟩, ⟨(v__law_right_groups X).up rfl, ⟨trivial, ⟨trivial, trivial⟩⟩⟩⟩⟩, trivial⟩⟩⟩⟩⟩⟩⟩⟩⟩⟩⟩⟩⟩⟩⟩
end
/-! ### the head -/
def d_omega_lane : He.DefD := ⟨("omega_lane", none), "omega_lane", "omega_lane", defArgs (topS 1), defBody (topS 1), defScope (topS 1), [], []⟩
def d_shuffled : He.DefD := ⟨("shuffled", none), "shuffled", "shuffled", defArgs (topS 3), defBody (topS 3), defScope (topS 3), [], []⟩
def d_first_common : He.DefD := ⟨("first_common", none), "first_common", "first_common", defArgs (topS 5), defBody (topS 5), defScope (topS 5), [], []⟩
def d_shift_calls : He.DefD := ⟨("shift_calls", none), "shift_calls", "shift_calls", defArgs (topS 9), defBody (topS 9), defScope (topS 9), [], []⟩
def d_is_close_and_rising : He.DefD := ⟨("is_close_and_rising", none), "is_close_and_rising", "is_close_and_rising", defArgs (topS 10), defBody (topS 10), defScope (topS 10), [], []⟩
def d_butterfly_lane : He.DefD := ⟨("butterfly_lane", none), "butterfly_lane", "butterfly_lane", defArgs (topS 12), defBody (topS 12), defScope (topS 12), [], []⟩
def d_named_anew : He.DefD := ⟨("named_anew", none), "named_anew", "named_anew", defArgs (topS 14), defBody (topS 14), defScope (topS 14), [], []⟩
def d_with_member : He.DefD := ⟨("with_member", none), "with_member", "with_member", defArgs (topS 19), defBody (topS 19), defScope (topS 19), [], []⟩
def d__law_draws : He.DefD := ⟨("_law_draws", none), "_law_draws", "_law_draws", defArgs (topS 26), defBody (topS 26), defScope (topS 26), [], []⟩
def d__law_order : He.DefD := ⟨("_law_order", none), "_law_order", "_law_order", defArgs (topS 27), defBody (topS 27), defScope (topS 27), [], []⟩
def d__law_omega : He.DefD := ⟨("_law_omega", none), "_law_omega", "_law_omega", defArgs (topS 28), defBody (topS 28), defScope (topS 28), [], []⟩
def d__law_fly : He.DefD := ⟨("_law_fly", none), "_law_fly", "_law_fly", defArgs (topS 29), defBody (topS 29), defScope (topS 29), [], []⟩
def d__law_apart : He.DefD := ⟨("_law_apart", none), "_law_apart", "_law_apart", defArgs (topS 30), defBody (topS 30), defScope (topS 30), [], []⟩
def d__law_walked : He.DefD := ⟨("_law_walked", none), "_law_walked", "_law_walked", defArgs (topS 31), defBody (topS 31), defScope (topS 31), [], []⟩
def d_omega_way : He.DefD := ⟨("omega_way", none), "omega_way", "omega_way", defArgs (topS 2), defBody (topS 2), defScope (topS 2), [], []⟩
def d_lanes_before : He.DefD := ⟨("lanes_before", none), "lanes_before", "lanes_before", defArgs (topS 4), defBody (topS 4), defScope (topS 4), [], []⟩
def d_first_clash : He.DefD := ⟨("first_clash", none), "first_clash", "first_clash", defArgs (topS 6), defBody (topS 6), defScope (topS 6), [], []⟩
def d_butterfly_way : He.DefD := ⟨("butterfly_way", none), "butterfly_way", "butterfly_way", defArgs (topS 13), defBody (topS 13), defScope (topS 13), [], []⟩
def d_same_nets : He.DefD := ⟨("same_nets", none), "same_nets", "same_nets", defArgs (topS 15), defBody (topS 15), defScope (topS 15), [], []⟩
def d_fits_group : He.DefD := ⟨("fits_group", none), "fits_group", "fits_group", defArgs (topS 18), defBody (topS 18), defScope (topS 18), [], []⟩
def d_table_of : He.DefD := ⟨("table_of", none), "table_of", "table_of", defArgs (topS 7), defBody (topS 7), defScope (topS 7), [], []⟩
def d_ways_of : He.DefD := ⟨("ways_of", none), "ways_of", "ways_of", defArgs (topS 17), defBody (topS 17), defScope (topS 17), [], []⟩
def d_further_groups : He.DefD := ⟨("further_groups", none), "further_groups", "further_groups", defArgs (topS 20), defBody (topS 20), defScope (topS 20), [], []⟩
def d_omega_paper : He.DefD := ⟨("omega_paper", none), "omega_paper", "omega_paper", defArgs (topS 8), defBody (topS 8), defScope (topS 8), [], []⟩
def d_groups_into : He.DefD := ⟨("groups_into", none), "groups_into", "groups_into", defArgs (topS 21), defBody (topS 21), defScope (topS 21), [], []⟩
def d_least_groups : He.DefD := ⟨("least_groups", none), "least_groups", "least_groups", defArgs (topS 22), defBody (topS 22), defScope (topS 22), [], []⟩
def d__law_right : He.DefD := ⟨("_law_right", none), "_law_right", "_law_right", defArgs (topS 32), defBody (topS 32), defScope (topS 32), [], []⟩
def d_fewest_groups : He.DefD := ⟨("fewest_groups", none), "fewest_groups", "fewest_groups", defArgs (topS 23), defBody (topS 23), defScope (topS 23), [], []⟩
def d_groups_of : He.DefD := ⟨("groups_of", none), "groups_of", "groups_of", defArgs (topS 24), defBody (topS 24), defScope (topS 24), [], []⟩
def d__law_right_groups : He.DefD := ⟨("_law_right_groups", none), "_law_right_groups", "_law_right_groups", defArgs (topS 33), defBody (topS 33), defScope (topS 33), [], []⟩
def d_law : He.DefD := ⟨("law", none), "law", "law", defArgs (topS 34), defBody (topS 34), defScope (topS 34), [], []⟩
def hfn : List He.DefD := [d_omega_lane, d_shuffled, d_first_common, d_shift_calls, d_is_close_and_rising, d_butterfly_lane, d_named_anew, d_with_member, d__law_draws, d__law_order, d__law_omega, d__law_fly, d__law_apart, d__law_walked, d_omega_way, d_lanes_before, d_first_clash, d_butterfly_way, d_same_nets, d_fits_group, d_table_of, d_ways_of, d_further_groups, d_omega_paper, d_groups_into, d_least_groups, d__law_right, d_fewest_groups, d_groups_of, d__law_right_groups, d_law]
def hfa : List He.Fa := [.glo "omega_lane", .glo "shuffled", .glo "first_common", .glo "shift_calls", .glo "is_close_and_rising", .glo "butterfly_lane", .glo "named_anew", .glo "with_member", .glo "_law_draws", .glo "_law_order", .glo "_law_omega", .glo "_law_fly", .glo "_law_apart", .glo "_law_walked", .glo "omega_way", .glo "lanes_before", .glo "first_clash", .glo "butterfly_way", .glo "same_nets", .glo "fits_group", .glo "table_of", .glo "ways_of", .glo "further_groups", .glo "omega_paper", .glo "groups_into", .glo "least_groups", .glo "_law_right", .glo "fewest_groups", .glo "groups_of", .glo "_law_right_groups", .glo "law", .free "abs", .free "int", .free "len", .free "list", .free "range", .free "sorted", .free "sum"]
abbrev HR : PySem.W.OpenRow := PySem.W.OpenLaw.row PySem.Challenge.rw_switchways_k94_across_omega_nets_and_but
abbrev hk : PySem.W.Hook := He.hookD 4 hfa hfn
def hob (s : PySem.W.SharedT) : He.AlD := He.obsDG 4 hfa hfn (HandSHeadRun.getT s)
theorem hob_eq (s : PySem.W.SharedT) : hob s = hk.obs s.abs := He.obsDG_eq (HandSHeadRun.getT_eq s)
def hnames : List PySem.Str := (["omega_lane", "omega_way", "shuffled", "lanes_before", "first_common", "first_clash", "table_of", "omega_paper", "shift_calls", "is_close_and_rising", "butterfly_lane", "butterfly_way", "named_anew", "same_nets", "ways_of", "fits_group", "with_member", "further_groups", "groups_into", "least_groups"] : List PySem.Str) ++ (["fewest_groups", "groups_of", "_law_draws", "_law_order", "_law_omega", "_law_fly", "_law_apart", "_law_walked", "_law_right", "_law_right_groups"] : List PySem.Str)
theorem hrun (w : World) : HandSHeadRun.RunEq HR (PySem.W.view HR.prog [34]) hk hob 4000 hnames w := by
  intro os
  kernel_rfl
theorem fx {C : Ctx} {h : Heap} (hnb : C.nb = (["abs", "int", "len", "list", "range", "sorted", "sum"] : List Str)) (X : C.K.In h) (G : h.Ns mainGlobals C.mg) (c : He.SaysD hfa hfn C.K) : Fx C where
  nb := hnb
  f_omega_lane := by
    obtain ⟨fd, F⟩ := c.def_ 0 (d := d_omega_lane) rfl
    exact ⟨_, fd, F, He.glo_ok X G (c.fact 0 (f := .glo "omega_lane") rfl)⟩
  f_shuffled := by
    obtain ⟨fd, F⟩ := c.def_ 1 (d := d_shuffled) rfl
    exact ⟨_, fd, F, He.glo_ok X G (c.fact 1 (f := .glo "shuffled") rfl)⟩
  f_first_common := by
    obtain ⟨fd, F⟩ := c.def_ 2 (d := d_first_common) rfl
    exact ⟨_, fd, F, He.glo_ok X G (c.fact 2 (f := .glo "first_common") rfl)⟩
  f_shift_calls := by
    obtain ⟨fd, F⟩ := c.def_ 3 (d := d_shift_calls) rfl
    exact ⟨_, fd, F, He.glo_ok X G (c.fact 3 (f := .glo "shift_calls") rfl)⟩
  f_is_close_and_rising := by
    obtain ⟨fd, F⟩ := c.def_ 4 (d := d_is_close_and_rising) rfl
    exact ⟨_, fd, F, He.glo_ok X G (c.fact 4 (f := .glo "is_close_and_rising") rfl)⟩
  f_butterfly_lane := by
    obtain ⟨fd, F⟩ := c.def_ 5 (d := d_butterfly_lane) rfl
    exact ⟨_, fd, F, He.glo_ok X G (c.fact 5 (f := .glo "butterfly_lane") rfl)⟩
  f_named_anew := by
    obtain ⟨fd, F⟩ := c.def_ 6 (d := d_named_anew) rfl
    exact ⟨_, fd, F, He.glo_ok X G (c.fact 6 (f := .glo "named_anew") rfl)⟩
  f_with_member := by
    obtain ⟨fd, F⟩ := c.def_ 7 (d := d_with_member) rfl
    exact ⟨_, fd, F, He.glo_ok X G (c.fact 7 (f := .glo "with_member") rfl)⟩
  f__law_draws := by
    obtain ⟨fd, F⟩ := c.def_ 8 (d := d__law_draws) rfl
    exact ⟨_, fd, F, He.glo_ok X G (c.fact 8 (f := .glo "_law_draws") rfl)⟩
  f__law_order := by
    obtain ⟨fd, F⟩ := c.def_ 9 (d := d__law_order) rfl
    exact ⟨_, fd, F, He.glo_ok X G (c.fact 9 (f := .glo "_law_order") rfl)⟩
  f__law_omega := by
    obtain ⟨fd, F⟩ := c.def_ 10 (d := d__law_omega) rfl
    exact ⟨_, fd, F, He.glo_ok X G (c.fact 10 (f := .glo "_law_omega") rfl)⟩
  f__law_fly := by
    obtain ⟨fd, F⟩ := c.def_ 11 (d := d__law_fly) rfl
    exact ⟨_, fd, F, He.glo_ok X G (c.fact 11 (f := .glo "_law_fly") rfl)⟩
  f__law_apart := by
    obtain ⟨fd, F⟩ := c.def_ 12 (d := d__law_apart) rfl
    exact ⟨_, fd, F, He.glo_ok X G (c.fact 12 (f := .glo "_law_apart") rfl)⟩
  f__law_walked := by
    obtain ⟨fd, F⟩ := c.def_ 13 (d := d__law_walked) rfl
    exact ⟨_, fd, F, He.glo_ok X G (c.fact 13 (f := .glo "_law_walked") rfl)⟩
  f_omega_way := by
    obtain ⟨fd, F⟩ := c.def_ 14 (d := d_omega_way) rfl
    exact ⟨_, fd, F, He.glo_ok X G (c.fact 14 (f := .glo "omega_way") rfl)⟩
  f_lanes_before := by
    obtain ⟨fd, F⟩ := c.def_ 15 (d := d_lanes_before) rfl
    exact ⟨_, fd, F, He.glo_ok X G (c.fact 15 (f := .glo "lanes_before") rfl)⟩
  f_first_clash := by
    obtain ⟨fd, F⟩ := c.def_ 16 (d := d_first_clash) rfl
    exact ⟨_, fd, F, He.glo_ok X G (c.fact 16 (f := .glo "first_clash") rfl)⟩
  f_butterfly_way := by
    obtain ⟨fd, F⟩ := c.def_ 17 (d := d_butterfly_way) rfl
    exact ⟨_, fd, F, He.glo_ok X G (c.fact 17 (f := .glo "butterfly_way") rfl)⟩
  f_same_nets := by
    obtain ⟨fd, F⟩ := c.def_ 18 (d := d_same_nets) rfl
    exact ⟨_, fd, F, He.glo_ok X G (c.fact 18 (f := .glo "same_nets") rfl)⟩
  f_fits_group := by
    obtain ⟨fd, F⟩ := c.def_ 19 (d := d_fits_group) rfl
    exact ⟨_, fd, F, He.glo_ok X G (c.fact 19 (f := .glo "fits_group") rfl)⟩
  f_table_of := by
    obtain ⟨fd, F⟩ := c.def_ 20 (d := d_table_of) rfl
    exact ⟨_, fd, F, He.glo_ok X G (c.fact 20 (f := .glo "table_of") rfl)⟩
  f_ways_of := by
    obtain ⟨fd, F⟩ := c.def_ 21 (d := d_ways_of) rfl
    exact ⟨_, fd, F, He.glo_ok X G (c.fact 21 (f := .glo "ways_of") rfl)⟩
  f_further_groups := by
    obtain ⟨fd, F⟩ := c.def_ 22 (d := d_further_groups) rfl
    exact ⟨_, fd, F, He.glo_ok X G (c.fact 22 (f := .glo "further_groups") rfl)⟩
  f_omega_paper := by
    obtain ⟨fd, F⟩ := c.def_ 23 (d := d_omega_paper) rfl
    exact ⟨_, fd, F, He.glo_ok X G (c.fact 23 (f := .glo "omega_paper") rfl)⟩
  f_groups_into := by
    obtain ⟨fd, F⟩ := c.def_ 24 (d := d_groups_into) rfl
    exact ⟨_, fd, F, He.glo_ok X G (c.fact 24 (f := .glo "groups_into") rfl)⟩
  f_least_groups := by
    obtain ⟨fd, F⟩ := c.def_ 25 (d := d_least_groups) rfl
    exact ⟨_, fd, F, He.glo_ok X G (c.fact 25 (f := .glo "least_groups") rfl)⟩
  f__law_right := by
    obtain ⟨fd, F⟩ := c.def_ 26 (d := d__law_right) rfl
    exact ⟨_, fd, F, He.glo_ok X G (c.fact 26 (f := .glo "_law_right") rfl)⟩
  f_fewest_groups := by
    obtain ⟨fd, F⟩ := c.def_ 27 (d := d_fewest_groups) rfl
    exact ⟨_, fd, F, He.glo_ok X G (c.fact 27 (f := .glo "fewest_groups") rfl)⟩
  f_groups_of := by
    obtain ⟨fd, F⟩ := c.def_ 28 (d := d_groups_of) rfl
    exact ⟨_, fd, F, He.glo_ok X G (c.fact 28 (f := .glo "groups_of") rfl)⟩
  f__law_right_groups := by
    obtain ⟨fd, F⟩ := c.def_ 29 (d := d__law_right_groups) rfl
    exact ⟨_, fd, F, He.glo_ok X G (c.fact 29 (f := .glo "_law_right_groups") rfl)⟩
  f_law := by
    obtain ⟨fd, F⟩ := c.def_ 30 (d := d_law) rfl
    exact ⟨_, fd, F, He.glo_ok X G (c.fact 30 (f := .glo "law") rfl)⟩
def nbs : List Str := ["abs", "int", "len", "list", "range", "sorted", "sum"]
theorem facts {P : Program} {w : World} {K : PySem.W.Frag} {h : Heap} {mg : Str → Option Value} {f : Addr} (X : K.In h) (G : h.Ns mainGlobals mg) (hfa1 : mg ("law" : Str) = some (.ref f)) (c : He.SaysD hfa hfn K)
    (hlaw : ∀ ns : List Int, ns.length ≤ 63 → Flaw [.list (ns.map fun i => PyData.int i)] = .ok (.bool true)) :
    ∃ fd : FuncData, (∀ (s : Shared) (v : Value), BindsTo s fd ⟨[v], []⟩ [("script", v)]) ∧ ∀ base : Heap, K.In base → base.Ns mainGlobals mg → FnOk P w K mg base CX0 8 f fd ["script"] (spLaw K) := by
  obtain ⟨fd, F⟩ := c.def_ 30 (d := d_law) rfl
  have e := hfa1.symm.trans (He.glo_ok X G (c.fact 30 (f := .glo "law") rfl))
  cases e
  have b := FunD.bindsA (ps := ["script"]) F fun _ _ _ _ _ _ us hl => match us, hl with | [_], _ => rfl
  refine ⟨fd, fun s v => b s [v] rfl, fun base _ _ => ?_⟩
  have hn : ∀ x ∈ nbs, mg x = none := fun x hx => by
      simp only [nbs, List.mem_cons, List.not_mem_nil, or_false] at hx
      rcases hx with rfl | rfl | rfl | rfl | rfl | rfl | rfl
      · exact He.free_ok X G (c.fact 31 (f := .free "abs") rfl)
      · exact He.free_ok X G (c.fact 32 (f := .free "int") rfl)
      · exact He.free_ok X G (c.fact 33 (f := .free "len") rfl)
      · exact He.free_ok X G (c.fact 34 (f := .free "list") rfl)
      · exact He.free_ok X G (c.fact 35 (f := .free "range") rfl)
      · exact He.free_ok X G (c.fact 36 (f := .free "sorted") rfl)
      · exact He.free_ok X G (c.fact 37 (f := .free "sum") rfl)
  have X0 : Fx (⟨P, w, K, mg, base, 0, nbs, hn⟩ : Ctx) := fx rfl X G c
  exact law_ok (C := (⟨P, w, K, mg, base, 0, nbs, hn⟩ : Ctx).lv 7) F sc_law (os_law X0) (by decide) (by show csk nbs _ _ _ = true; decide +kernel) (t := .F) (r := none) (by decide +kernel) hlaw
end VS
open PySem PySem.W PySem.Calls PyProof.Rows
set_option maxHeartbeats 0 in
theorem PySem.Challenge.head_switchways_k94_across_omega_nets_and_but (hlaw : ∀ ns : List Int, ns.length ≤ 63 → VS.Flaw [.list (ns.map fun i => PyData.int i)] = .ok (.bool true)) : PySem.Challenge.rw_switchways_k94_across_omega_nets_and_but.Holds := by
  w_on; o_law
  refine HandSHeadRun.head_any (r := OpenLaw.row PySem.Challenge.rw_switchways_k94_across_omega_nets_and_but) (q := view (OpenLaw.row PySem.Challenge.rw_switchways_k94_across_omega_nets_and_but).prog [34]) (H := VS.hk) (ob := VS.hob) (M := 4000) (loose := VS.hnames) (d := HandSHeadRun.topDef (OpenLaw.row PySem.Challenge.rw_switchways_k94_across_omega_nets_and_but).prog 34) (kwd := []) VS.hob_eq
    (by kernel_rfl) (fun s => by kernel_rfl) VS.hrun (by kernel_rfl) (by kernel_rfl) (by kernel_rfl) (by rfl) (by first | assumption | decide +kernel) (by decide +kernel) ⟨rfl, rfl, rfl, rfl, rfl, by decide +kernel⟩ ?hw ?hc
  case hw => w_witness2
  case hc =>
    refine L2.walk_ofE (l := PySem.Challenge.rw_switchways_k94_across_omega_nets_and_but) (n := 63) (k := 8) (x := "script") (CX := L2.CX0) rfl (by decide) (by kernel_rfl) ⟨rfl, by decide, by decide⟩ ?F (fun _ _ _ _ z => z)
    intro w mg fa h Y G hmg0
    obtain ⟨K, KX, c⟩ := Y
    have hmg : mg ("law" : PySem.Str) = some (.ref fa) := by
      have e : (HandSHeadRun.topDef (OpenLaw.row PySem.Challenge.rw_switchways_k94_across_omega_nets_and_but).prog 34).name = ("law" : PySem.Str) := by kernel_rfl
      rw [← e]
      exact hmg0
    obtain ⟨fd, hb, hF⟩ := VS.facts (P := (PySem.Challenge.rw_switchways_k94_across_omega_nets_and_but).prog) (w := w) KX G hmg c hlaw
    exact ⟨K, fd, VS.spLaw K, KX, hb, fun H a ns hl _ hS => ⟨a, ns, rfl, hS, hl, fun _ => rfl⟩, hF⟩
set_option Elab.async false
set_option linter.all false
set_option maxRecDepth 100000
namespace VS
open PySem PySem.Spec L2
open PyProof.Rows hiding St
def isT : R D → Bool
  | .ok (.bool true) => true
  | _ => false
theorem isT_eq {r : R D} (h : isT r = true) : r = .ok (.bool true) := by
  unfold isT at h
  split at h
  · rfl
  · cases h
mutual
def bq : PyData → PyData → Bool
  | .int i, .int j => i == j
  | .list a, .list b => bqL a b
  | _, _ => false
def bqL : List PyData → List PyData → Bool
  | [], [] => true
  | a :: l, b :: m => bq a b && bqL l m
  | _, _ => false
end
mutual
theorem bq_eq : ∀ {a b : PyData}, bq a b = true → a = b
  | .int i, .int j, h => by rw [bq] at h; rw [eq_of_beq h]
  | .list a, .list b, h => by rw [bq] at h; rw [bqL_eq h]
  | .none, _, h => by simp [bq] at h
  | .bool _, _, h => by simp [bq] at h
  | .str _, _, h => by simp [bq] at h
  | .tuple _, _, h => by simp [bq] at h
  | .dict _, _, h => by simp [bq] at h
  | .int _, .none, h => by simp [bq] at h
  | .int _, .bool _, h => by simp [bq] at h
  | .int _, .str _, h => by simp [bq] at h
  | .int _, .tuple _, h => by simp [bq] at h
  | .int _, .list _, h => by simp [bq] at h
  | .int _, .dict _, h => by simp [bq] at h
  | .list _, .none, h => by simp [bq] at h
  | .list _, .bool _, h => by simp [bq] at h
  | .list _, .str _, h => by simp [bq] at h
  | .list _, .tuple _, h => by simp [bq] at h
  | .list _, .int _, h => by simp [bq] at h
  | .list _, .dict _, h => by simp [bq] at h
theorem bqL_eq : ∀ {a b : List PyData}, bqL a b = true → a = b
  | [], [], _ => rfl
  | a :: l, b :: m, h => by
    rw [bqL, Bool.and_eq_true] at h
    rw [bq_eq h.1, bqL_eq h.2]
  | [], _ :: _, h => by simp [bqL] at h
  | _ :: _, [], h => by simp [bqL] at h
end
def bqR (r : R D) (d : D) : Bool := match r with
  | .ok e => bq e d
  | _ => false
theorem bqR_eq {r : R D} {d : D} (h : bqR r d = true) : r = .ok d := by
  unfold bqR at h
  split at h
  · rw [bq_eq h]
  · cases h
def iN (l : List Nat) : D := .list (l.map fun (c : Nat) => PyData.int (c : Int))
def bN (b : List (List Nat)) : D := .list (b.map iN)
end VS
set_option Elab.async false
set_option linter.all false
set_option maxRecDepth 100000
namespace VS
open PySem PySem.Spec L2
open PyProof.Rows hiding St
theorem log2_le {a b : Nat} (h : a ≤ b) (hb : b.log2 < 9000) : a.log2 < 9000 := by
  by_cases h0 : a = 0
  · subst h0; decide
  · exact Nat.lt_of_le_of_lt (by
      rw [Nat.le_log2 (by omega)]
      exact Nat.le_trans (Nat.log2_self_le h0) h) hb
theorem log2_lt' {a k : Nat} (h : a < 2 ^ k) (hk : 0 < k) : a.log2 < k := by
  by_cases h0 : a = 0
  · subst h0; exact hk
  · exact (Nat.log2_lt h0).mpr h
/-! ### the draws -/
def iL (l : List Int) : D := .list (l.map fun i => PyData.int i)
def Dr (l : List Int) : Prop := ∀ x ∈ l, 0 ≤ x ∧ x < 1000003
theorem Dr.app {l : List Int} {x : Int} (h : Dr l) (h1 : 0 ≤ x) (h2 : x < 1000003) : Dr (l ++ [x]) := fun y hy => by
  rcases List.mem_append.mp hy with z | z
  · exact h y z
  · rw [List.mem_singleton.mp z]; exact ⟨h1, h2⟩
theorem immL_ints (l : List Int) : immL (l.map fun i => PyData.int i) = true := immL_all fun d hd => by
  obtain ⟨i, _, rfl⟩ := List.mem_map.mp hd
  rfl
theorem q_pow18 : aOp .Pow 10 18 = .ok (.int 1000000000000000000) := rfl
theorem cut_to {α : Type} (xs : List α) (m : Nat) : cutD xs none (some (m : Int)) = xs.take m := by
  unfold cutD
  rw [HT.sIx_none, HT.sIx_nat, List.drop_zero, Nat.sub_zero]
  by_cases h : m ≤ xs.length
  · rw [Nat.min_eq_left h]
  · rw [Nat.min_eq_right (by omega), List.take_of_length_le (Nat.le_refl _), List.take_of_length_le (by omega)]
theorem app_ints (l : List Int) (x : Int) : (l.map fun i => PyData.int i) ++ [PyData.int x] = (l ++ [x]).map fun i => PyData.int i := by rw [List.map_append]; rfl
theorem len_iL (l : List Int) : blt1 .len (iL l) = .ok (.int (l.length : Int)) := by
  show R.ok (PyData.int ((l.map fun i => PyData.int i).length : Int)) = _
  rw [List.length_map]
theorem q_appI {j : Nat} {tf : Bool} {es : E} {δ : Sl} {l : List Int} {x : Int} (h1 : slotD δ j = .ok (iL l)) (h2 : evl es δ = .ok [.int x]) (h : l.length < 1000000) : sev (.mu .app tf (.sl j) es) δ = .nx (δ.set j (some (iL (l ++ [x])))) := by
  rw [q_app, h1, q_lok]
  show lft δ (nox (modG tf .ok [] (.list (l.map fun i => PyData.int i)))) _ = _
  rw [q_modL, q_ok, q_nox, q_lok, h2, q_lok]
  show lft δ (nox (modG tf (mop .app [.int x]) [] (.list (l.map fun i => PyData.int i)))) _ = _
  rw [q_modL, q_mopA, if_pos (by rw [List.length_map]; exact szl h), q_ok, q_nox, q_lok, app_ints]
  rfl
def dL (ns : List Int) (m : Int) (l : List Int) (x3 x4 x5 x6 x7 : Option D) : Sl := [some (iL ns), some (.int m), some (iL l), x3, x4, x5, x6, x7]
theorem f_draws (ns : List Int) (hns : ns.length ≤ 63) (m : Nat) (hm : m ≤ 1000) : ∃ l : List Int, F_law_draws [iL ns, .int (m : Int)] = .ok (iL l) ∧ l.length = m ∧ Dr l := by
  suffices h : ∃ l : List Int, sev T_law_draws [some (iL ns), some (.int (m : Int)), none, none, none, none, none, none] = .rt (iL l) ∧ l.length = m ∧ Dr l by
    obtain ⟨l, h1, h2⟩ := h
    exact ⟨l, F_rt (s := T_law_draws) (δ := [some (iL ns), some (.int (m : Int)), none, none, none, none, none, none]) rfl rfl h1, h2⟩
  unfold T_law_draws
  refine P_sq (W := fun o => ∃ l : List Int, o = .rt (iL l) ∧ l.length = m ∧ Dr l) (δ1 := dL ns m [] none none none none none) (by simp [sz]; rfl) ?_
  refine P_for (W := fun o => ∃ l : List Int, o = .rt (iL l) ∧ l.length = m ∧ Dr l) ((ns.take 63).map fun i => PyData.int i) (by
    show (ev (.slc (.sl 0) .nop (.prt (.k (.int 63)))) _ >>= iterD) = _
    simp only [q_slc, q_sl, dL, q_s0, q_ok, q_nop, q_prt, q_ki, q_intD, iL, q_slcL, q_itL]
    rw [show (63 : Int) = ((63 : Nat) : Int) from rfl, cut_to, List.map_take]) (by rw [immL_ints]; rfl)
    (fun i δ => ∃ l x3 x4 x5 x6, δ = dL ns m l x3 x4 x5 x6 none ∧ Dr l ∧ l.length ≤ 60 * i) ⟨[], _, _, _, _, rfl, (by intro x h; cases h), by simp⟩ (fun i δ hi hI => ?_) (fun δ' hI => ?_)
  · obtain ⟨l, x3, x4, x5, x6, rfl, hl, hlen⟩ := hI
    have hi63 : i < 63 := by
      have : i < min 63 ns.length := by simpa using hi
      omega
    rw [List.getElem_map]
    generalize (ns.take 63)[i]'(by simpa using hi) = c
    refine ⟨dL ns m l (some (.int c)) x4 x5 x6 none, ?_⟩
    suffices h : ∃ δ', sev _ (dL ns m l (some (.int c)) x4 x5 x6 none) = .nx δ' ∧ ∃ l x3 x4 x5 x6, δ' = dL ns m l x3 x4 x5 x6 none ∧ Dr l ∧ l.length ≤ 60 * (i + 1) by
      obtain ⟨δ', h1, h2⟩ := h
      exact ⟨δ', rfl, h1, h2⟩
    -- number
    generalize hW : (fun o : Out => ∃ δ', o = .nx δ' ∧ ∃ l x3 x4 x5 x6, δ' = dL ns m l x3 x4 x5 x6 none ∧ Dr l ∧ l.length ≤ 60 * (i + 1)) = W
    show (fun o : Out => ∃ δ', o = .nx δ' ∧ ∃ l x3 x4 x5 x6, δ' = dL ns m l x3 x4 x5 x6 none ∧ Dr l ∧ l.length ≤ 60 * (i + 1)) _
    rw [hW]
    have e : (if c < 0 then -c else c) = (c.natAbs : Int) := by split <;> omega
    refine P_sq (δ1 := dL ns m l (some (.int c)) (some (.int (c.natAbs : Int))) x5 x6 none) (by simp [dL, e]) ?_
    subst hW
    by_cases hbig : (1000000000000000000 : Int) ≤ (c.natAbs : Int)
    · -- a great number
      refine P_ife (W := fun o : Out => ∃ δ', o = .nx δ' ∧ ∃ l x3 x4 x5 x6, δ' = dL ns m l x3 x4 x5 x6 none ∧ Dr l ∧ l.length ≤ 60 * (i + 1)) (J := fun δ' => ∃ l x3 x4 x5 x6, δ' = dL ns m l x3 x4 x5 x6 none ∧ Dr l ∧ l.length ≤ 60 * (i + 1)) (bb := true) (by simp [dL, q_pow18, hbig]) (fun _ => ?_) (fun h => nomatch h) (fun δ' h => ⟨δ', rfl, h⟩)
      refine P_rng (W := fun o : Out => ∃ δ', o = .nx δ' ∧ ∃ l x3 x4 x5 x6, δ' = dL ns m l x3 x4 x5 x6 none ∧ Dr l ∧ l.length ≤ 60 * (i + 1)) 60 rfl (by decide) (by decide)
        (fun k δ => ∃ l x3 x5 x6, ∃ z : Int, δ = dL ns m l x3 (some (.int z)) x5 x6 none ∧ 0 ≤ z ∧ Dr l ∧ l.length ≤ 60 * i + k) ⟨l, _, _, _, _, rfl, by omega, hl, by omega⟩ (fun k δ hk hI => ?_) (fun δ' hI => ?_)
      · obtain ⟨l, x3, x5, x6, z, rfl, hz, hl, hlen⟩ := hI
        have hk60 : k < 60 := hk
        show ∃ δ', sev _ (dL ns m l x3 (some (.int z)) (some (.int (k : Int))) x6 none) = _ ∧ _
        refine P_ife (W := fun o : Out => ∃ δ', o = .nx δ' ∧ ∃ l x3 x5 x6, ∃ z : Int, δ' = dL ns m l x3 (some (.int z)) x5 x6 none ∧ 0 ≤ z ∧ Dr l ∧ l.length ≤ 60 * i + (k + 1)) (J := fun δ' => ∃ l x3 x5 x6, ∃ z : Int, δ' = dL ns m l x3 (some (.int z)) x5 x6 none ∧ 0 ≤ z ∧ Dr l ∧ l.length ≤ 60 * i + (k + 1)) (bb := decide (0 < z)) (by simp [dL]) (fun _ => ?_) (fun _ => ?_) (fun δ' h => ⟨δ', rfl, h⟩)
        · have e1 : aOp .Mod z 1000003 = .ok (.int (z % 1000003)) := q_mod (by decide)
          have e2 : aOp .FloorDiv z 1000003 = .ok (.int (z / 1000003)) := q_div (by decide) (by decide)
          refine ⟨dL ns m (l ++ [z % 1000003]) x3 (some (.int (z / 1000003))) (some (.int (k : Int))) x6 none, ?_, _, _, _, _, _, rfl, by omega, hl.app (by omega) (by omega), by rw [List.length_append]; simp; omega⟩
          refine sq (q_appI (l := l) (x := z % 1000003) rfl (by simp [dL, e1]) (by omega)) ?_
          show sev _ (dL ns m (l ++ [z % 1000003]) x3 (some (.int z)) (some (.int (k : Int))) x6 none) = _
          simp [dL, e2]
        · exact ⟨_, rfl, _, _, _, _, _, rfl, hz, hl, by omega⟩
      · obtain ⟨l, x3, x5, x6, z, rfl, hz, hl, hlen⟩ := hI
        have hlen : l.length ≤ 60 * i + 60 := hlen
        exact ⟨_, rfl, _, _, _, _, _, rfl, hl, by omega⟩
    · -- a small one
      have hsm : mulOk (c.natAbs : Int) 48271 := .inl (by omega)
      refine P_ife (W := fun o : Out => ∃ δ', o = .nx δ' ∧ ∃ l x3 x4 x5 x6, δ' = dL ns m l x3 x4 x5 x6 none ∧ Dr l ∧ l.length ≤ 60 * (i + 1)) (J := fun δ' => ∃ l x3 x4 x5 x6, δ' = dL ns m l x3 x4 x5 x6 none ∧ Dr l ∧ l.length ≤ 60 * (i + 1)) (bb := false) (by simp [dL, q_pow18]; omega) (fun h => nomatch h) (fun _ => ?_) (fun δ' h => ⟨δ', rfl, h⟩)
      have m7 : ∀ z : Int, mulOk 7 z := fun z => .inl (by decide)
      have e1 : ∀ z : Int, aOp .Mod z 2147483647 = .ok (.int (z % 2147483647)) := fun z => q_mod (by decide)
      have e2 : ∀ z : Int, aOp .Mod z 2147483629 = .ok (.int (z % 2147483629)) := fun z => q_mod (by decide)
      have e3 : ∀ z : Int, aOp .Mod z 1000003 = .ok (.int (z % 1000003)) := fun z => q_mod (by decide)
      have e4 : ∀ z : Int, aOp .FloorDiv z 65536 = .ok (.int (z / 65536)) := fun z => q_div (by decide) (by decide)
      have e5 : ∀ z : Int, aOp .FloorDiv z 8 = .ok (.int (z / 8)) := fun z => q_div (by decide) (by decide)
      have m13 : ∀ z : Int, mulOk 13 z := fun z => .inl (by decide)
      refine P_sq (W := fun o : Out => ∃ δ', o = .nx δ' ∧ ∃ l x3 x4 x5 x6, δ' = dL ns m l x3 x4 x5 x6 none ∧ Dr l ∧ l.length ≤ 60 * (i + 1)) (δ1 := dL ns m l (some (.int c)) (some (.int (c.natAbs : Int))) x5 (some (.int (((c.natAbs : Int) * 48271 + 7 * (l.length : Int) + 11) % 2147483647))) none) (by
        simp [dL, q_mul hsm, q_mul (m7 _), len_iL, e1]) ?_
      refine P_rng (W := fun o : Out => ∃ δ', o = .nx δ' ∧ ∃ l x3 x4 x5 x6, δ' = dL ns m l x3 x4 x5 x6 none ∧ Dr l ∧ l.length ≤ 60 * (i + 1)) 4 rfl (by decide) (by decide)
        (fun k δ => ∃ l x3 x4 x5, ∃ z : Int, δ = dL ns m l x3 x4 x5 (some (.int z)) none ∧ 0 ≤ z ∧ z < 4294967296 ∧ Dr l ∧ l.length ≤ 60 * i + k) ⟨l, _, _, _, _, rfl, by omega, by omega, hl, by omega⟩ (fun k δ hk hI => ?_) (fun δ' hI => ?_)
      · obtain ⟨l, x3, x4, x5, z, rfl, hz, hz2, hl, hlen⟩ := hI
        have hk4 : k < 4 := hk
        have hzm : mulOk z 69621 := .inl (by omega)
        show ∃ δ', sev _ (dL ns m l x3 x4 (some (.int (k : Int))) (some (.int z)) none) = _ ∧ _
        generalize hv : (z * 69621 + z / 65536 + 13 * (k : Int) + 5) % 2147483629 = v
        have hv1 : 0 ≤ v ∧ v < 2147483629 := by omega
        refine ⟨dL ns m (l ++ [v / 8 % 1000003]) x3 x4 (some (.int (k : Int))) (some (.int v)) none, ?_, _, _, _, _, _, rfl, by omega, by omega, hl.app (by omega) (by omega), by rw [List.length_append]; simp; omega⟩
        refine sq (δ1 := dL ns m l x3 x4 (some (.int (k : Int))) (some (.int v)) none) (by simp [dL, q_mul hzm, q_mul (m13 _), e4, e2, hv]) ?_
        exact sq (q_appI (l := l) (x := v / 8 % 1000003) rfl (by simp [dL, e5, e3]) (by omega)) rfl
      · obtain ⟨l, x3, x4, x5, z, rfl, hz, hz2, hl, hlen⟩ := hI
        have hlen : l.length ≤ 60 * i + 4 := hlen
        exact ⟨_, rfl, _, _, _, _, _, rfl, hl, by omega⟩
  · -- the rest
    obtain ⟨l, x3, x4, x5, x6, rfl, hl, hlen⟩ := hI
    have hlen : l.length ≤ 3780 := by
      rw [List.length_map, List.length_take] at hlen
      omega
    refine P_rng (W := fun o => ∃ l : List Int, o = .rt (iL l) ∧ l.length = m ∧ Dr l) (m : Int) rfl (by omega) (by omega)
      (fun k δ => ∃ l x3 x4 x5 x6 x7, δ = dL ns m l x3 x4 x5 x6 x7 ∧ Dr l ∧ k ≤ l.length ∧ l.length ≤ 3780 + k) ⟨l, _, _, _, _, _, rfl, hl, by omega, by omega⟩ (fun k δ hk hI => ?_) (fun δ' hI => ?_)
    · obtain ⟨l, x3, x4, x5, x6, x7, rfl, hl, hlk, hlen⟩ := hI
      have hkm : k < m := by omega
      show ∃ δ', sev _ (dL ns m l x3 x4 (some (.int (k : Int))) x6 x7) = _ ∧ _
      refine P_ife (W := fun o : Out => ∃ δ', o = .nx δ' ∧ ∃ l x3 x4 x5 x6 x7, δ' = dL ns m l x3 x4 x5 x6 x7 ∧ Dr l ∧ k + 1 ≤ l.length ∧ l.length ≤ 3780 + (k + 1)) (J := fun δ' => ∃ l x3 x4 x5 x6 x7, δ' = dL ns m l x3 x4 x5 x6 x7 ∧ Dr l ∧ k + 1 ≤ l.length ∧ l.length ≤ 3780 + (k + 1)) (bb := decide ((l.length : Int) < (m : Int))) (by simp [dL, len_iL]) (fun hb => ?_) (fun hb => ?_) (fun δ' h => ⟨δ', rfl, h⟩)
      · have hlm : l.length < m := by
          have := of_decide_eq_true hb
          omega
        refine P_sq (W := fun o : Out => ∃ δ', o = .nx δ' ∧ ∃ l x3 x4 x5 x6 x7, δ' = dL ns m l x3 x4 x5 x6 x7 ∧ Dr l ∧ k + 1 ≤ l.length ∧ l.length ≤ 3780 + (k + 1)) (δ1 := dL ns m l x3 x4 (some (.int (k : Int))) x6 (some (.int 0))) (by simp [dL]) ?_
        refine P_ife (W := fun o : Out => ∃ δ', o = .nx δ' ∧ ∃ l x3 x4 x5 x6 x7, δ' = dL ns m l x3 x4 x5 x6 x7 ∧ Dr l ∧ k + 1 ≤ l.length ∧ l.length ≤ 3780 + (k + 1)) (J := fun δ' => ∃ v : Int, δ' = dL ns m l x3 x4 (some (.int (k : Int))) x6 (some (.int v)) ∧ 0 ≤ v ∧ v < 1000003) (bb := decide ((0 : Int) < (l.length : Int))) (by simp [dL, len_iL]) (fun hb => ?_) (fun hb => ⟨_, rfl, 0, rfl, by decide, by decide⟩) (fun δ' hJ => ?_)
        · have hl0 : 0 < l.length := by
            have := of_decide_eq_true hb
            omega
          have hmod : k % l.length < l.length := Nat.mod_lt _ hl0
          have e1 : aOp .Mod (k : Int) (l.length : Int) = .ok (.int ((k % l.length : Nat) : Int)) := q_mod (by omega)
          have e2 : ixD (iL l) (.int ((k % l.length : Nat) : Int)) = .ok (.int l[k % l.length]) := q_ixN (by rw [List.getElem?_map, List.getElem?_eq_getElem hmod]; rfl)
          have := hl l[k % l.length] (List.getElem_mem hmod)
          refine ⟨dL ns m l x3 x4 (some (.int (k : Int))) x6 (some (.int l[k % l.length])), ?_, _, rfl, this.1, this.2⟩
          have e3 : blt1 .len (iL l) = .ok (.int (l.length : Int)) := len_iL l
          generalize iL l = L at e2 e3
          refine sq ?_ rfl
          show sev _ [some (iL ns), some (.int (m : Int)), some (iL l), x3, x4, some (.int (k : Int)), x6, some (.int 0)] = .nx [some (iL ns), some (.int (m : Int)), some (iL l), x3, x4, some (.int (k : Int)), x6, some (.int l[k % l.length])]
          have e2' : ixD (iL l) (.int ((k % l.length : Nat) : Int)) = .ok (.int l[k % l.length]) := q_ixN (by rw [List.getElem?_map, List.getElem?_eq_getElem hmod]; rfl)
          simp only [q_sasg, q_cI, q_ix, q_sl, q_s1, q_s0, q_ari, q_blt, q_cons, q_nil, q_ok, q_blt1, len_iL, q_ii, e1, e2', q_ci, if_true, q_lok, q_t1, List.set_cons_succ, List.set_cons_zero]
        · obtain ⟨v, rfl, hv1, hv2⟩ := hJ
          have m1 : mulOk v 16807 := .inl (by omega)
          have m31 : ∀ z : Int, mulOk 31 z := fun z => .inl (by decide)
          have e3 : ∀ z : Int, aOp .Mod z 1000003 = .ok (.int (z % 1000003)) := fun z => q_mod (by decide)
          refine ⟨dL ns m (l ++ [(v * 16807 + 31 * (l.length : Int) + 17) % 1000003]) x3 x4 (some (.int (k : Int))) x6 (some (.int v)), ?_, _, _, _, _, _, _, rfl, hl.app (by omega) (by omega), by rw [List.length_append]; simp; omega, by rw [List.length_append]; simp; omega⟩
          exact sq (q_appI (l := l) (x := (v * 16807 + 31 * (l.length : Int) + 17) % 1000003) rfl (by simp [dL, len_iL, q_mul m1, q_mul (m31 _), e3]) (by omega)) rfl
      · have : ¬ (l.length : Int) < (m : Int) := of_decide_eq_false hb
        exact ⟨_, rfl, _, _, _, _, _, _, rfl, hl, by omega, by omega⟩
    · obtain ⟨l, x3, x4, x5, x6, x7, rfl, hl, hlk, hlen⟩ := hI
      have hlk : m ≤ l.length := by simpa using hlk
      refine ⟨l.take m, ?_, by rw [List.length_take]; omega, fun x hx => hl x (List.mem_of_mem_take hx)⟩
      refine sqx ?_
      show sev (.ret (.cL (.slc (.sl 2) .nop (.prt (.sl 1))))) [some (iL ns), some (.int (m : Int)), some (.list (l.map fun i => PyData.int i)), x3, x4, x5, x6, x7] = _
      simp only [q_sret, q_cL, q_slc, q_sl, q_s1, q_s0, q_ok, q_nop, q_prt, q_intD, q_slcL, cut_to, ← List.map_take, immL_ints, if_true, q_lok]
      rfl
theorem small_log {s : Int} (h : s.natAbs < 2 ^ 64) : s.natAbs.log2 < 9000 := Nat.lt_trans (log2_lt' h (by decide)) (by decide)
theorem sq_no {c : E} {a t : S} {δ : Sl} {r : Out} (hc : ev c δ = .ok (.bool false)) (h : sev t δ = r) : sev (.seq (.ife c a .nil) t) δ = r := by
  refine sq (δ1 := δ) ?_ h
  rw [q_sife, hc]
  rfl
theorem ev_rng1 {a : E} {δ : Sl} {n : Nat} (h1 : ev a δ = .ok (.int (n : Int))) (hn : n ≤ 1000000) : (ev (.rng1 a) δ >>= iterD) = .ok ((List.range n).map fun (i : Nat) => PyData.int (i : Int)) := by
  simp only [q_rng1, h1, q_ok, q_intD]
  rw [rngD_ok (by omega) (by omega) (by omega) (by omega) (by omega), show ((n : Int) - 0).toNat = n by omega]
  simp only [Int.zero_add]
  rfl
theorem blt_sumN (l : List Nat) : blt1 .sum (.list (l.map fun (i : Nat) => PyData.int (i : Int))) = .ok (.int (l.sum : Int)) := by
  have e := blt_sum (l.map fun (i : Nat) => (i : Int))
  rw [List.map_map] at e
  have e2 : (l.map fun (i : Nat) => (i : Int)).sum = (l.sum : Int) := by
    induction l with
    | nil => rfl
    | cons x l ih => rw [List.map_cons, List.sum_cons, List.sum_cons, ih (by rw [← List.map_map]; exact blt_sum _), Int.natCast_add]
  rw [e2] at e
  exact e
theorem cut_from {α : Type} (xs : List α) {m : Nat} (h : m ≤ xs.length) : cutD xs (some (m : Int)) none = xs.drop m := by
  unfold cutD
  rw [HT.sIx_none, HT.sIx_nat, Nat.min_eq_left h, List.take_of_length_le (by rw [List.length_drop]; omega)]
theorem getD_in {α : Type} {l : List α} {k : Nat} (d : α) (h : k < l.length) : l.getD k d = l[k] := by
  rw [List.getD_eq_getElem?_getD, List.getElem?_eq_getElem h]; rfl
theorem ev_compF {β : Type} {own : List (Str × Nat)} {tg : Tg} {it cnd elt : E} {δ : Sl} (l : List β) (f g : β → D) (c : β → Bool) (h1 : (ev it δ >>= iterD) = .ok (l.map f))
    (h : ∀ b ∈ l, ∃ δ', setTg tg (f b) (wipeD δ (own.map (·.2))) = .ok δ' ∧ evc cnd δ' = .ok (c b) ∧ (c b = true → ev elt δ' = .ok (g b))) : ev (.comp own tg it cnd elt) δ = .ok (.list ((l.filter c).map g)) := by
  show (ev it δ >>= iterD >>= fun xs => nox (compL (fun x => setTg tg x (wipeD δ (own.map (·.2))) >>= fun δ' => evc cnd δ' >>= fun c => match c with
        | true => ev elt δ' >>= fun y => .ok (some y)
        | false => .ok none) xs) >>= fun ys => R.ok (PyData.list ys)) = _
  rw [h1]
  have key : ∀ l : List β, (∀ b ∈ l, ∃ δ', setTg tg (f b) (wipeD δ (own.map (·.2))) = .ok δ' ∧ evc cnd δ' = .ok (c b) ∧ (c b = true → ev elt δ' = .ok (g b))) → compL (fun x => setTg tg x (wipeD δ (own.map (·.2))) >>= fun δ' => evc cnd δ' >>= fun c => match c with
        | true => ev elt δ' >>= fun y => .ok (some y)
        | false => .ok none) (l.map f) = .ok ((l.filter c).map g) := by
    intro l
    induction l with
    | nil => intro _; rfl
    | cons b l ih =>
      intro h
      obtain ⟨δ', e1, e2, e3⟩ := h b List.mem_cons_self
      have ih := ih fun c hc => h c (List.mem_cons_of_mem _ hc)
      cases hb : c b with
      | true =>
        rw [List.filter_cons_of_pos hb]
        refine compL_cons (o := some (g b)) ?_ ih
        simp only [e1, q_ok, e2, hb, e3 hb]
      | false =>
        rw [List.filter_cons_of_neg (by rw [hb]; decide)]
        refine compL_cons (o := none) ?_ ih
        simp only [e1, q_ok, e2, hb]
  simp only [q_ok, key l h, q_nox]
theorem q_appG {j : Nat} {tf : Bool} {es : E} {δ : Sl} {l : List D} {d : D} (h1 : slotD δ j = .ok (.list l)) (h2 : evl es δ = .ok [d]) (h : l.length < 1000000) : sev (.mu .app tf (.sl j) es) δ = .nx (δ.set j (some (.list (l ++ [d])))) := by
  rw [q_app, h1, q_lok, q_modL, q_ok, q_nox, q_lok, h2, q_lok, q_modL, q_mopA, if_pos (szl h), q_ok, q_nox, q_lok]
def dv (l : List Int) (i : Nat) : Int := l.getD i 0
def zz (l : List Int) (i m : Nat) : Nat := (dv l i % (m : Int)).toNat
theorem dv_at {l : List Int} {i : Nat} (h : i < l.length) : ixD (iL l) (.int (i : Int)) = .ok (.int (dv l i)) := by
  unfold dv
  rw [getD_in _ h]
  exact q_ixN (by rw [List.getElem?_map, List.getElem?_eq_getElem h]; rfl)
theorem zz_mod (l : List Int) (i : Nat) {m : Nat} (hm : 0 < m) : aOp .Mod (dv l i) (m : Int) = .ok (.int (zz l i m : Int)) := by
  have h1 : 0 ≤ dv l i % (m : Int) := Int.emod_nonneg _ (by omega)
  rw [q_mod (by omega)]
  unfold zz
  rw [Int.toNat_of_nonneg h1]
theorem zz_lt (l : List Int) (i : Nat) {m : Nat} (hm : 0 < m) : zz l i m < m := by
  have h1 : 0 ≤ dv l i % (m : Int) := Int.emod_nonneg _ (by omega)
  have h2 : dv l i % (m : Int) < (m : Int) := Int.emod_lt_of_pos _ (by omega)
  unfold zz
  omega
end VS
set_option Elab.async false
set_option linter.all false
set_option maxRecDepth 100000
namespace VS
open PySem PySem.Spec L2
open PyProof.Rows hiding St
theorem iN_len (l : List Nat) : blt1 .len (iN l) = .ok (.int (l.length : Int)) := by
  unfold iN
  rw [q_lenL, List.length_map]
theorem bN_len (b : List (List Nat)) : blt1 .len (bN b) = .ok (.int (b.length : Int)) := by
  unfold bN
  rw [q_lenL, List.length_map]
theorem iN_imm (l : List Nat) : immL (l.map fun (c : Nat) => PyData.int (c : Int)) = true := immL_all fun d hd => by
  obtain ⟨i, _, rfl⟩ := List.mem_map.mp hd
  rfl
theorem bN_at {b : List (List Nat)} {i : Nat} (h : i < b.length) : ixD (bN b) (.int (i : Int)) = .ok (iN (b.getD i [])) := by
  rw [getD_in _ h]
  exact q_ixN (by rw [List.getElem?_map, List.getElem?_eq_getElem h]; rfl)
theorem iN_at {l : List Nat} {i : Nat} (h : i < l.length) : ixD (iN l) (.int (i : Int)) = .ok (.int ((l.getD i 0 : Nat) : Int)) := by
  rw [getD_in _ h]
  exact q_ixN (by rw [List.getElem?_map, List.getElem?_eq_getElem h]; rfl)
theorem iN_cL {e : E} {δ : Sl} {l : List Nat} (h : ev e δ = .ok (iN l)) : ev (.cL e) δ = .ok (iN l) := by
  rw [q_cL, h, q_ok]
  unfold iN
  show (if _ then _ else _) = _
  rw [if_pos (iN_imm l)]
theorem shp_iN (l : List Nat) : Shp 1 (iN l) := Shp.list fun d hd => by
  obtain ⟨i, _, rfl⟩ := List.mem_map.mp hd
  exact .int _ _
theorem shp_bN (b : List (List Nat)) : Shp 2 (bN b) := Shp.list fun d hd => by
  obtain ⟨i, _, rfl⟩ := List.mem_map.mp hd
  exact shp_iN _
theorem eq_iN (l : List Nat) : eqD (iN l) (iN l) = .ok true := eqD_self (shp_iN l)
theorem eq_bN (b : List (List Nat)) : eqD (bN b) (bN b) = .ok true := eqD_self (shp_bN b)
theorem ne_iN {l m : List Nat} (h : l.length ≠ m.length) : eqD (iN l) (iN m) = .ok false := by
  unfold eqD
  rw [if_pos ⟨(shp_iN l).shaped (by decide), (shp_iN m).shaped (by decide)⟩]
  unfold iN
  rw [PyData.eqv, PySem.SeqAt.eqvAll_other_length (by rw [List.length_map, List.length_map]; exact h)]
theorem in_iN (o : Nat) (l : List Nat) : inD (.int (o : Int)) (iN l) = .ok (decide (o ∈ l)) := by
  have sh : SeqAt.shaped (.int (o : Int)) = true := rfl
  unfold iN
  show (if _ then _ else _) = _
  rw [if_pos ⟨sh, (shp_iN l).shaped (by decide)⟩]
  congr 1
  rw [Bool.eq_iff_iff, List.any_eq_true, decide_eq_true_iff]
  constructor
  · rintro ⟨z, hz, e⟩
    obtain ⟨c, hc, rfl⟩ := List.mem_map.mp hz
    have e : ((c : Int) == (o : Int)) = true := e
    have := eq_of_beq e
    have : c = o := by omega
    exact this ▸ hc
  · intro h
    exact ⟨_, List.mem_map.mpr ⟨o, h, rfl⟩, (show ((o : Int) == (o : Int)) = true from beq_self_eq_true _)⟩
theorem q_in (x y : D) : cmpD .NotIn x y = notR (inD x y) := (rfl)
theorem nodup_sub_len : ∀ {l m : List Nat}, l.Nodup → (∀ x ∈ l, x ∈ m) → l.length ≤ m.length
  | [], _, _, _ => Nat.zero_le _
  | x :: l, m, h, s => by
    obtain ⟨h1, h2⟩ := List.nodup_cons.mp h
    have hx := s x List.mem_cons_self
    have := nodup_sub_len (m := m.erase x) h2 fun y hy => by
      have ne : y ≠ x := fun e => h1 (e ▸ hy)
      exact (List.mem_erase_of_ne ne).mpr (s y (List.mem_cons_of_mem _ hy))
    rw [List.length_erase_of_mem hx] at this
    have := List.length_pos_of_mem hx
    rw [List.length_cons]
    omega
@[simp] theorem q_pr1 (P : P1) (a : E) (δ : Sl) : ev (.pr1 P a) δ = ev a δ >>= p1D P := (rfl)
theorem q_lrg {n : Nat} (h : n ≤ 1000000) : p1D .lrg (.int (n : Int)) = .ok (iN (List.range n)) := by
  show (if ((n : Int) - 0).toNat ≤ 1000000 then rngD 0 (n : Int) else .no) = _
  rw [if_pos (by omega), rngD_ok (by omega) (by omega) (by omega) (by omega) (by omega), show ((n : Int) - 0).toNat = n by omega]
  unfold iN
  simp only [Int.zero_add]
theorem iN_cat {a b : List Nat} (h : a.length + b.length ≤ 1000000) : catD (iN a) (iN b) = .ok (iN (a ++ b)) := by
  unfold iN
  show (if _ then _ else _) = _
  rw [if_pos (sz (by rw [List.length_map, List.length_map]; exact h)), List.map_append]
theorem bN_cat {a b : List (List Nat)} (h : a.length + b.length ≤ 1000000) : catD (bN a) (bN b) = .ok (bN (a ++ b)) := by
  unfold bN
  show (if _ then _ else _) = _
  rw [if_pos (sz (by rw [List.length_map, List.length_map]; exact h)), List.map_append]
theorem filter_split {α : Type} (p : α → Bool) : ∀ l : List α, (l.filter p).length + (l.filter fun x => !p x).length = l.length
  | [] => rfl
  | x :: l => by
    have ih := filter_split p l
    cases h : p x with
    | true =>
      rw [List.filter_cons_of_pos h, List.filter_cons_of_neg (by rw [h]; decide), List.length_cons, List.length_cons]
      omega
    | false =>
      rw [List.filter_cons_of_neg (by rw [h]; decide), List.filter_cons_of_pos (by rw [h]; rfl), List.length_cons, List.length_cons]
      omega
theorem forL_stop {f : D → Sl → Out} {g : Nat → D} {h : Nat → D} {P : Nat → Bool} {I : Nat → Sl → Prop} : ∀ (m k0 : Nat) (δ : Sl), I k0 δ →
    (∀ k δ, k0 ≤ k → k < k0 + m → I k δ → (P k = true ∧ f (h k) δ = .rt (g k)) ∨ (P k = false ∧ ∃ δ', f (h k) δ = .nx δ' ∧ I (k + 1) δ')) →
    (∃ k, k0 ≤ k ∧ k < k0 + m ∧ P k = true ∧ (∀ j, k0 ≤ j → j < k → P j = false) ∧ forL f ((List.range' k0 m).map h) δ = .rt (g k)) ∨
    ((∀ j, k0 ≤ j → j < k0 + m → P j = false) ∧ ∃ δ', forL f ((List.range' k0 m).map h) δ = .nx δ' ∧ I (k0 + m) δ')
  | 0, k0, δ, h0, _ => .inr ⟨fun j h1 h2 => by omega, δ, rfl, h0⟩
  | m + 1, k0, δ, h0, hh => by
    have e : forL f ((List.range' k0 (m + 1)).map h) δ = (f (h k0) δ).thn (forL f ((List.range' (k0 + 1) m).map h)) := rfl
    rw [e]
    rcases hh k0 δ (Nat.le_refl _) (by omega) h0 with ⟨h1, h2⟩ | ⟨h1, δ', h2, h3⟩
    · refine .inl ⟨k0, Nat.le_refl _, by omega, h1, fun j a b => by omega, ?_⟩
      rw [h2]; rfl
    · rw [h2, q_tn]
      have hj : ∀ j, k0 ≤ j → (k0 + 1 ≤ j → P j = false) → P j = false := fun j a b => by
        by_cases e : j = k0
        · subst e; exact h1
        · exact b (by omega)
      rcases forL_stop m (k0 + 1) δ' h3 (fun k δ a b c => hh k δ (by omega) (by omega) c) with ⟨k, a, b, c, d, e⟩ | ⟨a, b⟩
      · exact .inl ⟨k, by omega, by omega, c, fun j h4 h5 => hj j h4 fun h6 => d j h6 h5, e⟩
      · refine .inr ⟨fun j h4 h5 => hj j h4 fun h6 => a j h6 (by omega), ?_⟩
        rw [show k0 + (m + 1) = k0 + 1 + m by omega]
        exact b
theorem flatL_map {β : Type} {F : D → R (List D)} {f : β → D} {g : β → List D} : ∀ l : List β, (∀ b ∈ l, F (f b) = .ok (g b)) → flatL F (l.map f) = .ok (l.flatMap g)
  | [], _ => rfl
  | b :: l, h => by
    show (F (f b) >>= fun ys => flatL F (l.map f) >>= fun zs => R.ok (ys ++ zs)) = _
    rw [h b List.mem_cons_self, q_ok, flatL_map l fun c hc => h c (List.mem_cons_of_mem _ hc), q_ok]
    rfl
theorem mapL_map {β : Type} {F : D → R D} {f g : β → D} : ∀ l : List β, (∀ b ∈ l, F (f b) = .ok (g b)) → mapL F (l.map f) = .ok (l.map g)
  | [], _ => rfl
  | b :: l, h => by
    show (F (f b) >>= fun y => mapL F (l.map f) >>= fun ys => R.ok (y :: ys)) = _
    rw [h b List.mem_cons_self, q_ok, mapL_map l fun c hc => h c (List.mem_cons_of_mem _ hc), q_ok]
    rfl
theorem ev_comp2 {β γ : Type} {own : List (Str × Nat)} {tg tg1 : Tg} {it it1 elt : E} {δ : Sl} (l : List β) (f : β → D) (zs : β → List γ) (g r : γ → D) (h1 : (ev it δ >>= iterD) = .ok (l.map f))
    (h : ∀ b ∈ l, ∃ δ1, setTg tg (f b) (wipeD δ (own.map (·.2))) = .ok δ1 ∧ (ev it1 δ1 >>= iterD) = .ok ((zs b).map g) ∧ ∀ z ∈ zs b, ∃ δ2, setTg tg1 (g z) (wipeD δ1 (tgL tg1)) = .ok δ2 ∧ ev elt δ2 = .ok (r z) ∧ imm (r z) = true)
    (hl : (l.flatMap zs).length ≤ 1000000) : ev (.comp2 own tg it tg1 it1 elt) δ = .ok (.list ((l.flatMap zs).map r)) := by
  show (ev it δ >>= iterD >>= fun xs =>
      nox (flatL (fun x => setTg tg x (wipeD δ (own.map (·.2))) >>= fun δ1 => ev it1 δ1 >>= iterD >>= fun zs =>
        mapL (fun z => setTg tg1 z (wipeD δ1 (tgL tg1)) >>= fun δ2 => ev elt δ2 >>= fun y => if imm y = true then .ok y else .no) zs) xs) >>= fun ys => if ys.length ≤ sizeLine then R.ok (PyData.list ys) else .no) = _
  rw [h1, q_ok, flatL_map (g := fun b => (zs b).map r) l fun b hb => ?_]
  · rw [q_nox, q_ok]
    have e : (l.flatMap fun b => (zs b).map r) = (l.flatMap zs).map r := by rw [List.map_flatMap]
    rw [e, if_pos (sz (by rw [List.length_map]; exact hl))]
  · obtain ⟨δ1, e1, e2, e3⟩ := h b hb
    simp only [e1, q_ok, e2]
    refine mapL_map _ fun z hz => ?_
    obtain ⟨δ2, e4, e5, e6⟩ := e3 z hz
    simp only [e4, q_ok, e5, e6, if_true]
theorem bN_copy {b : List (List Nat)} {e : E} {δ : Sl} {own : List (Str × Nat)} {j : Nat} {f : List Nat → List Nat} {elt : E} (h : (ev e δ >>= iterD) = .ok (b.map iN)) (h2 : ∀ l ∈ b, ∃ δ', setTg (.one j) (iN l) (wipeD δ (own.map (·.2))) = .ok δ' ∧ ev elt δ' = .ok (iN (f l))) :
    ev (.comp own (.one j) e .nop elt) δ = .ok (bN (b.map f)) := by
  rw [ev_comp b iN (fun l => iN (f l)) h h2]
  unfold bN
  rw [List.map_map]
  rfl
theorem map_id' (b : List (List Nat)) : b.map (fun l => l) = b := List.map_id _
theorem ev_copy {l : List Nat} {j : Nat} {δ : Sl} (h : slotD δ j = .ok (iN l)) : ev (.cL (.blt .list (.cons (.sl j) .nil))) δ = .ok (iN l) := iN_cL (by
  rw [q_blt, q_cons, q_sl, h]
  rfl)
theorem n64 : (100 : Nat) < 2 ^ 64 := by decide
theorem mul_ok {a b : Nat} (h : a < 2 ^ 64) : mulOk (a : Int) (b : Int) := .inl (by rwa [Int.natAbs_natCast])
theorem E_sq {I : Sl → Prop} {s t : S} {δ δ1 : Sl} (h : sev s δ = .nx δ1) (k : ∃ δ', sev t δ1 = .nx δ' ∧ I δ') : ∃ δ', sev (.seq s t) δ = .nx δ' ∧ I δ' := by
  obtain ⟨δ', e, i⟩ := k
  exact ⟨δ', sq h e, i⟩
theorem E_ife {I J : Sl → Prop} {c : E} {a b t : S} {δ : Sl} {bb : Bool} (hc : ev c δ = .ok (.bool bb)) (h1 : bb = true → ∃ δ', sev a δ = .nx δ' ∧ J δ') (h2 : bb = false → ∃ δ', sev b δ = .nx δ' ∧ J δ') (k : ∀ δ', J δ' → ∃ δ'', sev t δ' = .nx δ'' ∧ I δ'') : ∃ δ', sev (.seq (.ife c a b) t) δ = .nx δ' ∧ I δ' :=
  P_ife (W := fun o => ∃ δ', o = .nx δ' ∧ I δ') hc h1 h2 k
end VS
set_option Elab.async false
set_option linter.all false
set_option maxRecDepth 100000
namespace VS
open PySem PySem.Spec L2
open PyProof.Rows hiding St
/-! ### whole numbers from 0 -/
theorem n_add (a b : Nat) : aOp .Add (a : Int) (b : Int) = .ok (.int ((a + b : Nat) : Int)) := rfl
theorem n_sub {a b : Nat} (h : b ≤ a) : aOp .Sub (a : Int) (b : Int) = .ok (.int ((a - b : Nat) : Int)) := by
  rw [q_sub]; congr 2; omega
theorem n_mod (a : Nat) {m : Nat} (h : 0 < m) : aOp .Mod (a : Int) (m : Int) = .ok (.int ((a % m : Nat) : Int)) := by
  rw [q_mod (by omega)]; rfl
theorem n_div (a : Nat) {m : Nat} (h : 0 < m) (h2 : m < 2 ^ 64) : aOp .FloorDiv (a : Int) (m : Int) = .ok (.int ((a / m : Nat) : Int)) := by
  rw [q_div (by omega) (by rw [Int.natAbs_natCast]; exact Nat.lt_trans (log2_lt' h2 (by decide)) (by decide))]; rfl
theorem n_mul {a : Nat} (b : Nat) (h : a < 2 ^ 64) : aOp .Mult (a : Int) (b : Int) = .ok (.int ((a * b : Nat) : Int)) := by
  rw [q_mul (mul_ok h)]; rfl
theorem n_shl {k : Nat} (h : k ≤ 1000) : aOp .LShift 1 (k : Int) = .ok (.int ((2 ^ k : Nat) : Int)) := by
  show (if 0 ≤ (k : Int) ∧ (k : Int) ≤ 1000000 ∧ (1 : Int).natAbs < 2 ^ 64 then R.ok (PyData.int (1 * 2 ^ (k : Int).toNat)) else .no) = _
  rw [if_pos ⟨by omega, by omega, by decide⟩, Int.toNat_natCast, Int.one_mul]
  congr 2
theorem n_shr (a k : Nat) : aOp .RShift (a : Int) (k : Int) = .ok (.int ((a / 2 ^ k : Nat) : Int)) := by
  show (if 0 ≤ (k : Int) then R.ok (PyData.int ((a : Int) / 2 ^ (k : Int).toNat)) else .no) = _
  rw [if_pos (by omega), Int.toNat_natCast]
  congr 2
theorem n_add1 (a : Nat) : aOp .Add (a : Int) 1 = .ok (.int ((a + 1 : Nat) : Int)) := rfl
theorem n_sub1 {a : Nat} (h : 1 ≤ a) : aOp .Sub (a : Int) 1 = .ok (.int ((a - 1 : Nat) : Int)) := n_sub (b := 1) h
theorem n_mod2 (a : Nat) : aOp .Mod (a : Int) 2 = .ok (.int ((a % 2 : Nat) : Int)) := n_mod a (m := 2) (by decide)
theorem n_div2 (a : Nat) : aOp .FloorDiv (a : Int) 2 = .ok (.int ((a / 2 : Nat) : Int)) := n_div a (m := 2) (by decide) (by decide)
theorem n_mul2 {a : Nat} (h : a < 2 ^ 64) : aOp .Mult (a : Int) 2 = .ok (.int ((a * 2 : Nat) : Int)) := n_mul 2 h
theorem n_2mul (a : Nat) : aOp .Mult 2 (a : Int) = .ok (.int ((2 * a : Nat) : Int)) := n_mul (a := 2) a (by decide)
theorem n_shl1 : aOp .LShift 1 0 = .ok (.int 1) := rfl
/-! ### the lanes -/
def ol (k a b s : Nat) : Nat := a % 2 ^ (k - s) * 2 ^ s + b / 2 ^ (k - s)
def bl (k a b s : Nat) : Nat := b / 2 ^ (k - s) * 2 ^ (k - s) + a % 2 ^ (k - s)
def na (k l s : Nat) : Nat := l % 2 ^ s * 2 ^ (k - s) + l / 2 ^ s
def sh (k l : Nat) : Nat := l % 2 ^ (k - 1) * 2 + l / 2 ^ (k - 1)
def ow (k a b : Nat) : List Nat := (List.range k).map fun t => ol k a b (t + 1)
def bw (k a b : Nat) : List Nat := (List.range k).map fun t => bl k a b (t + 1)
theorem p5 {k : Nat} (h : k ≤ 5) : 0 < 2 ^ k ∧ 2 ^ k ≤ 32 := ⟨Nat.two_pow_pos k, Nat.le_trans (Nat.pow_le_pow_right (by decide) h) (by decide)⟩
theorem l64 {a : Nat} (h : a ≤ 100000) : a < 2 ^ 64 := Nat.lt_of_le_of_lt h (by decide)
section
variable {k a b s : Nat}
theorem f_lane (hk : k ≤ 5) (hs : s ≤ k) : Fomega_lane [.int (k : Int), .int (a : Int), .int (b : Int), .int (s : Int)] = .ok (.int (ol k a b s : Int)) := by
  have p1 := p5 (k := k - s) (by omega)
  have p2 := p5 (k := s) (by omega)
  have e1 := n_sub (a := k) (b := s) hs
  have e2 := n_shl (k := k - s) (by omega)
  have e3 := n_shl (k := s) (by omega)
  have e4 := n_mod a p1.1
  have e5 := n_mul (a := a % 2 ^ (k - s)) (2 ^ s) (l64 (by have := Nat.mod_lt a p1.1; omega))
  have e6 := n_div b p1.1 (l64 (by omega))
  have e7 := n_add (a % 2 ^ (k - s) * 2 ^ s) (b / 2 ^ (k - s))
  refine F_rt (s := Tomega_lane) (δ := [some (.int (k : Int)), some (.int (a : Int)), some (.int (b : Int)), some (.int (s : Int)), none]) rfl rfl ?_
  unfold Tomega_lane
  refine sq (δ1 := [some (.int (k : Int)), some (.int (a : Int)), some (.int (b : Int)), some (.int (s : Int)), some (.int ((2 ^ (k - s) : Nat) : Int))]) ?_ (sqx ?_)
  · simp only [List.set_cons_succ, List.set_cons_zero, q_sasg, q_spar, q_sret, q_sretS, q_sife, q_snil, q_tn, q_tr, q_lst, q_tup, q_call, q_cons, q_nil, q_cI, q_ari, q_ix, q_sl, q_s0, q_s1, q_ki, q_kn, q_kb, q_ks, q_neg, q_negD, q_ci, q_cb, q_cs, q_cn, if_true, q_ok, q_ii, q_or, q_and, q_one, q_not, q_cmp, q_eq, q_ne, q_lt, q_le, q_gt, q_ge, q_is, q_isnot, q_isnN, q_isnI, q_isnL, q_isnT, q_notR, q_boolD, Bool.not_true, Bool.not_false, List.length_cons, List.length_nil, sz (show 0 ≤ 1000000 by decide), sz (show 0 + 1 ≤ 1000000 by decide), sz (show 0 + 1 + 1 ≤ 1000000 by decide), q_lok, q_t1, q_t2, q_t3, q_t4, q_blt, q_blt1, q_blt2, q_eqi, e1, e2]
  · simp only [List.set_cons_succ, List.set_cons_zero, q_sasg, q_spar, q_sret, q_sretS, q_sife, q_snil, q_tn, q_tr, q_lst, q_tup, q_call, q_cons, q_nil, q_cI, q_ari, q_ix, q_sl, q_s0, q_s1, q_ki, q_kn, q_kb, q_ks, q_neg, q_negD, q_ci, q_cb, q_cs, q_cn, if_true, q_ok, q_ii, q_or, q_and, q_one, q_not, q_cmp, q_eq, q_ne, q_lt, q_le, q_gt, q_ge, q_is, q_isnot, q_isnN, q_isnI, q_isnL, q_isnT, q_notR, q_boolD, Bool.not_true, Bool.not_false, List.length_cons, List.length_nil, sz (show 0 ≤ 1000000 by decide), sz (show 0 + 1 ≤ 1000000 by decide), sz (show 0 + 1 + 1 ≤ 1000000 by decide), q_lok, q_t1, q_t2, q_t3, q_t4, q_blt, q_blt1, q_blt2, q_eqi, e3, e4, e5, e6, e7]
    rfl
theorem f_blane (hk : k ≤ 5) (hs : s ≤ k) (hb : b < 2 ^ 60) : Fbutterfly_lane [.int (k : Int), .int (a : Int), .int (b : Int), .int (s : Int)] = .ok (.int (bl k a b s : Int)) := by
  have p1 := p5 (k := k - s) (by omega)
  have e1 := n_sub (a := k) (b := s) hs
  have e2 := n_shl (k := k - s) (by omega)
  have e4 := n_mod a p1.1
  have e5 := n_mul (a := b / 2 ^ (k - s)) (2 ^ (k - s)) (by have := Nat.div_le_self b (2 ^ (k - s)); omega)
  have e6 := n_div b p1.1 (l64 (by omega))
  have e7 := n_add (b / 2 ^ (k - s) * 2 ^ (k - s)) (a % 2 ^ (k - s))
  refine F_rt (s := Tbutterfly_lane) (δ := [some (.int (k : Int)), some (.int (a : Int)), some (.int (b : Int)), some (.int (s : Int)), none]) rfl rfl ?_
  unfold Tbutterfly_lane
  refine sq (δ1 := [some (.int (k : Int)), some (.int (a : Int)), some (.int (b : Int)), some (.int (s : Int)), some (.int ((2 ^ (k - s) : Nat) : Int))]) ?_ (sqx ?_)
  · simp only [List.set_cons_succ, List.set_cons_zero, q_sasg, q_spar, q_sret, q_sretS, q_sife, q_snil, q_tn, q_tr, q_lst, q_tup, q_call, q_cons, q_nil, q_cI, q_ari, q_ix, q_sl, q_s0, q_s1, q_ki, q_kn, q_kb, q_ks, q_neg, q_negD, q_ci, q_cb, q_cs, q_cn, if_true, q_ok, q_ii, q_or, q_and, q_one, q_not, q_cmp, q_eq, q_ne, q_lt, q_le, q_gt, q_ge, q_is, q_isnot, q_isnN, q_isnI, q_isnL, q_isnT, q_notR, q_boolD, Bool.not_true, Bool.not_false, List.length_cons, List.length_nil, sz (show 0 ≤ 1000000 by decide), sz (show 0 + 1 ≤ 1000000 by decide), sz (show 0 + 1 + 1 ≤ 1000000 by decide), q_lok, q_t1, q_t2, q_t3, q_t4, q_blt, q_blt1, q_blt2, q_eqi, e1, e2]
  · simp only [List.set_cons_succ, List.set_cons_zero, q_sasg, q_spar, q_sret, q_sretS, q_sife, q_snil, q_tn, q_tr, q_lst, q_tup, q_call, q_cons, q_nil, q_cI, q_ari, q_ix, q_sl, q_s0, q_s1, q_ki, q_kn, q_kb, q_ks, q_neg, q_negD, q_ci, q_cb, q_cs, q_cn, if_true, q_ok, q_ii, q_or, q_and, q_one, q_not, q_cmp, q_eq, q_ne, q_lt, q_le, q_gt, q_ge, q_is, q_isnot, q_isnN, q_isnI, q_isnL, q_isnT, q_notR, q_boolD, Bool.not_true, Bool.not_false, List.length_cons, List.length_nil, sz (show 0 ≤ 1000000 by decide), sz (show 0 + 1 ≤ 1000000 by decide), sz (show 0 + 1 + 1 ≤ 1000000 by decide), q_lok, q_t1, q_t2, q_t3, q_t4, q_blt, q_blt1, q_blt2, q_eqi, e4, e5, e6, e7]
    rfl
theorem f_named {l : Nat} (hk : k ≤ 5) (hs : s ≤ k) : Fnamed_anew [.int (k : Int), .int (l : Int), .int (s : Int)] = .ok (.int (na k l s : Int)) := by
  have p1 := p5 (k := s) (by omega)
  have e1 := n_sub (a := k) (b := s) hs
  have e2 := n_shl (k := k - s) (by omega)
  have e3 := n_shl (k := s) (by omega)
  have e4 := n_mod l p1.1
  have e5 := n_mul (a := l % 2 ^ s) (2 ^ (k - s)) (l64 (by have := Nat.mod_lt l p1.1; omega))
  have e6 := n_div l p1.1 (l64 (by omega))
  have e7 := n_add (l % 2 ^ s * 2 ^ (k - s)) (l / 2 ^ s)
  refine F_rt (s := Tnamed_anew) (δ := [some (.int (k : Int)), some (.int (l : Int)), some (.int (s : Int)), none]) rfl rfl ?_
  unfold Tnamed_anew
  refine sq (δ1 := [some (.int (k : Int)), some (.int (l : Int)), some (.int (s : Int)), some (.int ((2 ^ s : Nat) : Int))]) ?_ (sqx ?_)
  · simp only [List.set_cons_succ, List.set_cons_zero, q_sasg, q_spar, q_sret, q_sretS, q_sife, q_snil, q_tn, q_tr, q_lst, q_tup, q_call, q_cons, q_nil, q_cI, q_ari, q_ix, q_sl, q_s0, q_s1, q_ki, q_kn, q_kb, q_ks, q_neg, q_negD, q_ci, q_cb, q_cs, q_cn, if_true, q_ok, q_ii, q_or, q_and, q_one, q_not, q_cmp, q_eq, q_ne, q_lt, q_le, q_gt, q_ge, q_is, q_isnot, q_isnN, q_isnI, q_isnL, q_isnT, q_notR, q_boolD, Bool.not_true, Bool.not_false, List.length_cons, List.length_nil, sz (show 0 ≤ 1000000 by decide), sz (show 0 + 1 ≤ 1000000 by decide), sz (show 0 + 1 + 1 ≤ 1000000 by decide), q_lok, q_t1, q_t2, q_t3, q_t4, q_blt, q_blt1, q_blt2, q_eqi, e3]
  · simp only [List.set_cons_succ, List.set_cons_zero, q_sasg, q_spar, q_sret, q_sretS, q_sife, q_snil, q_tn, q_tr, q_lst, q_tup, q_call, q_cons, q_nil, q_cI, q_ari, q_ix, q_sl, q_s0, q_s1, q_ki, q_kn, q_kb, q_ks, q_neg, q_negD, q_ci, q_cb, q_cs, q_cn, if_true, q_ok, q_ii, q_or, q_and, q_one, q_not, q_cmp, q_eq, q_ne, q_lt, q_le, q_gt, q_ge, q_is, q_isnot, q_isnN, q_isnI, q_isnL, q_isnT, q_notR, q_boolD, Bool.not_true, Bool.not_false, List.length_cons, List.length_nil, sz (show 0 ≤ 1000000 by decide), sz (show 0 + 1 ≤ 1000000 by decide), sz (show 0 + 1 + 1 ≤ 1000000 by decide), q_lok, q_t1, q_t2, q_t3, q_t4, q_blt, q_blt1, q_blt2, q_eqi, e1, e2, e4, e5, e6, e7]
    rfl
theorem f_shuffled {l : Nat} (h1 : 1 ≤ k) (hk : k ≤ 5) : Fshuffled [.int (k : Int), .int (l : Int)] = .ok (.int (sh k l : Int)) := by
  have p1 := p5 (k := k - 1) (by omega)
  have e1 := n_sub1 h1
  have e2 := n_shl (k := k - 1) (by omega)
  have e4 := n_mod l p1.1
  have e5 := n_mul2 (a := l % 2 ^ (k - 1)) (l64 (by have := Nat.mod_lt l p1.1; omega))
  have e6 := n_div l p1.1 (l64 (by omega))
  have e7 := n_add (l % 2 ^ (k - 1) * 2) (l / 2 ^ (k - 1))
  refine F_rt (s := Tshuffled) (δ := [some (.int (k : Int)), some (.int (l : Int)), none]) rfl rfl ?_
  unfold Tshuffled
  refine sq (δ1 := [some (.int (k : Int)), some (.int (l : Int)), some (.int ((2 ^ (k - 1) : Nat) : Int))]) ?_ (sqx ?_)
  · simp only [List.set_cons_succ, List.set_cons_zero, q_sasg, q_spar, q_sret, q_sretS, q_sife, q_snil, q_tn, q_tr, q_lst, q_tup, q_call, q_cons, q_nil, q_cI, q_ari, q_ix, q_sl, q_s0, q_s1, q_ki, q_kn, q_kb, q_ks, q_neg, q_negD, q_ci, q_cb, q_cs, q_cn, if_true, q_ok, q_ii, q_or, q_and, q_one, q_not, q_cmp, q_eq, q_ne, q_lt, q_le, q_gt, q_ge, q_is, q_isnot, q_isnN, q_isnI, q_isnL, q_isnT, q_notR, q_boolD, Bool.not_true, Bool.not_false, List.length_cons, List.length_nil, sz (show 0 ≤ 1000000 by decide), sz (show 0 + 1 ≤ 1000000 by decide), sz (show 0 + 1 + 1 ≤ 1000000 by decide), q_lok, q_t1, q_t2, q_t3, q_t4, q_blt, q_blt1, q_blt2, q_eqi, e1, e2]
  · simp only [List.set_cons_succ, List.set_cons_zero, q_sasg, q_spar, q_sret, q_sretS, q_sife, q_snil, q_tn, q_tr, q_lst, q_tup, q_call, q_cons, q_nil, q_cI, q_ari, q_ix, q_sl, q_s0, q_s1, q_ki, q_kn, q_kb, q_ks, q_neg, q_negD, q_ci, q_cb, q_cs, q_cn, if_true, q_ok, q_ii, q_or, q_and, q_one, q_not, q_cmp, q_eq, q_ne, q_lt, q_le, q_gt, q_ge, q_is, q_isnot, q_isnN, q_isnI, q_isnL, q_isnT, q_notR, q_boolD, Bool.not_true, Bool.not_false, List.length_cons, List.length_nil, sz (show 0 ≤ 1000000 by decide), sz (show 0 + 1 ≤ 1000000 by decide), sz (show 0 + 1 + 1 ≤ 1000000 by decide), q_lok, q_t1, q_t2, q_t3, q_t4, q_blt, q_blt1, q_blt2, q_eqi, e4, e5, e6, e7]
    rfl
theorem ev_rng2 {a b : E} {δ : Sl} {m n : Nat} (h1 : ev a δ = .ok (.int (m : Int))) (h2 : ev b δ = .ok (.int (n : Int))) (hm : m ≤ 100000) (hn : n ≤ 100000) : (ev (.rng2 a b) δ >>= iterD) = .ok ((List.range (n - m)).map fun (i : Nat) => PyData.int ((m + i : Nat) : Int)) := by
  simp only [q_rng2, h1, h2, q_ok, q_intD]
  rw [rngD_ok (by omega) (by omega) (by omega) (by omega) (by omega), show ((n : Int) - (m : Int)).toNat = n - m by omega]
  rfl
theorem f_way (hk : k ≤ 5) : Fomega_way [.int (k : Int), .int (a : Int), .int (b : Int)] = .ok (iN (ow k a b)) := by
  refine F_rt (s := Tomega_way) (δ := [some (.int (k : Int)), some (.int (a : Int)), some (.int (b : Int)), none]) rfl rfl ?_
  unfold Tomega_way
  refine sqx ?_
  rw [q_sret, ev_comp (List.range k) (fun (i : Nat) => PyData.int ((1 + i : Nat) : Int)) (fun t => .int (ol k a b (t + 1) : Int)) ?_ fun i hi => ?_]
  · unfold iN ow
    rw [List.map_map]
    rfl
  · rw [ev_rng2 (m := 1) (n := k + 1) rfl rfl (by omega) (by omega), Nat.add_sub_cancel]
  · have hi := List.mem_range.mp hi
    have e := f_lane (a := a) (b := b) hk (s := 1 + i) (by omega)
    refine ⟨_, rfl, ?_⟩
    simp only [q_w1, q_w0, List.map_cons, List.map_nil, List.set_cons_succ, List.set_cons_zero, q_sasg, q_spar, q_sret, q_sretS, q_sife, q_snil, q_tn, q_tr, q_lst, q_tup, q_call, q_cons, q_nil, q_cI, q_ari, q_ix, q_sl, q_s0, q_s1, q_ki, q_kn, q_kb, q_ks, q_neg, q_negD, q_ci, q_cb, q_cs, q_cn, if_true, q_ok, q_ii, q_or, q_and, q_one, q_not, q_cmp, q_eq, q_ne, q_lt, q_le, q_gt, q_ge, q_is, q_isnot, q_isnN, q_isnI, q_isnL, q_isnT, q_notR, q_boolD, Bool.not_true, Bool.not_false, List.length_cons, List.length_nil, sz (show 0 ≤ 1000000 by decide), sz (show 0 + 1 ≤ 1000000 by decide), sz (show 0 + 1 + 1 ≤ 1000000 by decide), q_lok, q_t1, q_t2, q_t3, q_t4, q_blt, q_blt1, q_blt2, q_eqi, e]
    rw [Nat.add_comm]
theorem f_bway (hk : k ≤ 5) (hb : b < 2 ^ 60) : Fbutterfly_way [.int (k : Int), .int (a : Int), .int (b : Int)] = .ok (iN (bw k a b)) := by
  refine F_rt (s := Tbutterfly_way) (δ := [some (.int (k : Int)), some (.int (a : Int)), some (.int (b : Int)), none]) rfl rfl ?_
  unfold Tbutterfly_way
  refine sqx ?_
  rw [q_sret, ev_comp (List.range k) (fun (i : Nat) => PyData.int ((1 + i : Nat) : Int)) (fun t => .int (bl k a b (t + 1) : Int)) ?_ fun i hi => ?_]
  · unfold iN bw
    rw [List.map_map]
    rfl
  · rw [ev_rng2 (m := 1) (n := k + 1) rfl rfl (by omega) (by omega), Nat.add_sub_cancel]
  · have hi := List.mem_range.mp hi
    have e := f_blane (a := a) (b := b) hk (s := 1 + i) (by omega) hb
    refine ⟨_, rfl, ?_⟩
    simp only [q_w1, q_w0, List.map_cons, List.map_nil, List.set_cons_succ, List.set_cons_zero, q_sasg, q_spar, q_sret, q_sretS, q_sife, q_snil, q_tn, q_tr, q_lst, q_tup, q_call, q_cons, q_nil, q_cI, q_ari, q_ix, q_sl, q_s0, q_s1, q_ki, q_kn, q_kb, q_ks, q_neg, q_negD, q_ci, q_cb, q_cs, q_cn, if_true, q_ok, q_ii, q_or, q_and, q_one, q_not, q_cmp, q_eq, q_ne, q_lt, q_le, q_gt, q_ge, q_is, q_isnot, q_isnN, q_isnI, q_isnL, q_isnT, q_notR, q_boolD, Bool.not_true, Bool.not_false, List.length_cons, List.length_nil, sz (show 0 ≤ 1000000 by decide), sz (show 0 + 1 ≤ 1000000 by decide), sz (show 0 + 1 + 1 ≤ 1000000 by decide), q_lok, q_t1, q_t2, q_t3, q_t4, q_blt, q_blt1, q_blt2, q_eqi, e]
    rw [Nat.add_comm]
def nets (k : Nat) : List (List Nat) := (List.range (k + 1)).map fun s => (List.range (2 ^ k)).map fun l => na k l s
theorem f_nets (hk : k ≤ 5) : Fsame_nets [.int (k : Int)] = .ok (bN (nets k)) := by
  have p1 := p5 hk
  have e2 := n_shl (k := k) (by omega)
  refine F_rt (s := Tsame_nets) (δ := [some (.int (k : Int)), none, none]) rfl rfl ?_
  unfold Tsame_nets
  refine sqx ?_
  rw [q_sret, ev_comp (List.range (k + 1)) (fun (i : Nat) => PyData.int (i : Int)) (fun s => iN ((List.range (2 ^ k)).map fun l => na k l s)) (ev_rng1 (n := k + 1) rfl (by omega)) fun i hi => ?_]
  · unfold bN nets
    rw [List.map_map]
    rfl
  · have hi := List.mem_range.mp hi
    refine ⟨_, rfl, ?_⟩
    rw [ev_comp (List.range (2 ^ k)) (fun (i : Nat) => PyData.int (i : Int)) (fun l => .int (na k l i : Int)) (ev_rng1 (n := 2 ^ k) (by simp only [q_w1, q_w0, List.map_cons, List.map_nil, List.set_cons_succ, List.set_cons_zero, q_sasg, q_spar, q_sret, q_sretS, q_sife, q_snil, q_tn, q_tr, q_lst, q_tup, q_call, q_cons, q_nil, q_cI, q_ari, q_ix, q_sl, q_s0, q_s1, q_ki, q_kn, q_kb, q_ks, q_neg, q_negD, q_ci, q_cb, q_cs, q_cn, if_true, q_ok, q_ii, q_or, q_and, q_one, q_not, q_cmp, q_eq, q_ne, q_lt, q_le, q_gt, q_ge, q_is, q_isnot, q_isnN, q_isnI, q_isnL, q_isnT, q_notR, q_boolD, Bool.not_true, Bool.not_false, List.length_cons, List.length_nil, sz (show 0 ≤ 1000000 by decide), sz (show 0 + 1 ≤ 1000000 by decide), sz (show 0 + 1 + 1 ≤ 1000000 by decide), q_lok, q_t1, q_t2, q_t3, q_t4, q_blt, q_blt1, q_blt2, q_eqi, e2]) (by omega)) fun l hl => ?_]
    · unfold iN
      rw [List.map_map]
      rfl
    · have e := f_named (l := l) hk (s := i) (by omega)
      refine ⟨_, rfl, ?_⟩
      simp only [q_w1, q_w0, List.map_cons, List.map_nil, List.set_cons_succ, List.set_cons_zero, q_sasg, q_spar, q_sret, q_sretS, q_sife, q_snil, q_tn, q_tr, q_lst, q_tup, q_call, q_cons, q_nil, q_cI, q_ari, q_ix, q_sl, q_s0, q_s1, q_ki, q_kn, q_kb, q_ks, q_neg, q_negD, q_ci, q_cb, q_cs, q_cn, if_true, q_ok, q_ii, q_or, q_and, q_one, q_not, q_cmp, q_eq, q_ne, q_lt, q_le, q_gt, q_ge, q_is, q_isnot, q_isnN, q_isnI, q_isnL, q_isnT, q_notR, q_boolD, Bool.not_true, Bool.not_false, List.length_cons, List.length_nil, sz (show 0 ≤ 1000000 by decide), sz (show 0 + 1 ≤ 1000000 by decide), sz (show 0 + 1 + 1 ≤ 1000000 by decide), q_lok, q_t1, q_t2, q_t3, q_t4, q_blt, q_blt1, q_blt2, q_eqi, e]
end
end VS
set_option Elab.async false
set_option linter.all false
set_option maxRecDepth 100000
namespace VS
open PySem PySem.Spec L2
open PyProof.Rows hiding St
/-! ### what the lanes are -/
theorem a_step0 : ∀ k, k < 6 → ∀ s, s < k → ∀ a, a < 2 ^ k → ∀ b, b < 2 ^ k → (2 * ol k a b s + b / 2 ^ (k - 1 - s) % 2) % 2 ^ k = ol k a b (s + 1) := by decide +kernel
theorem a_fly0 : ∀ k, k < 6 → ∀ s, s < k → ∀ a, a < 2 ^ k → ∀ b, b < 2 ^ k → bl k a b s - bl k a b s % (2 * 2 ^ (k - 1 - s)) + (b % (2 * 2 ^ (k - 1 - s)) - b % 2 ^ (k - 1 - s)) + bl k a b s % 2 ^ (k - 1 - s) = bl k a b (s + 1) := by decide +kernel
theorem a_flq0 : ∀ k, k < 6 → ∀ s, s < k → ∀ b, b < 2 ^ k → b % 2 ^ (k - 1 - s) ≤ b % (2 * 2 ^ (k - 1 - s)) := by decide +kernel
theorem a_na0 : ∀ k, k < 6 → ∀ s, s < k + 1 → ∀ a, a < 2 ^ k → ∀ b, b < 2 ^ k → na k (ol k a b s) s = bl k a b s := by decide +kernel
theorem a_ends0 : ∀ k, k < 6 → ∀ a, a < 2 ^ k → na k a 0 = a ∧ na k a k = a := by decide +kernel
theorem a_ol0 : ∀ k, k < 6 → ∀ a, a < 2 ^ k → ∀ b, b < 2 ^ k → ol k a b 0 = a ∧ ol k a b k = b ∧ bl k a b 0 = a := by decide +kernel
theorem a_sh0 : ∀ k, k < 6 → ∀ s, s < k → ∀ a, a < 2 ^ k → ∀ b, b < 2 ^ k → sh k (ol k a b s) / 2 = ol k a b (s + 1) / 2 := by decide +kernel
theorem a_shb0 : ∀ k, k < 6 → 1 ≤ k → ∀ l, l < 2 ^ k → sh k l < 2 ^ k ∧ (2 * l + 2 * l / 2 ^ k) % 2 ^ k = sh k l ∧ sh k l % 2 * 2 ^ (k - 1) + sh k l / 2 = l := by decide +kernel
theorem a_lt0 : ∀ k, k < 6 → ∀ s, s < k + 1 → ∀ a, a < 2 ^ k → ∀ b, b < 2 ^ k → ol k a b s < 2 ^ k ∧ bl k a b s < 2 ^ k := by decide +kernel
section
variable {k a b : Nat} (hk : k ≤ 5) (ha : a < 2 ^ k) (hb : b < 2 ^ k)
include hk ha hb
theorem f_lomega : F_law_omega [.int (k : Int), .int (a : Int), .int (b : Int)] = .ok (iN (ow k a b)) := by
  have p1 := p5 hk
  have e0 := n_shl (k := k) (by omega)
  refine F_rt (s := T_law_omega) (δ := [some (.int (k : Int)), some (.int (a : Int)), some (.int (b : Int)), none, none, none, none]) rfl rfl ?_
  unfold T_law_omega
  refine sq (δ1 := [some (.int (k : Int)), some (.int (a : Int)), some (.int (b : Int)), some (.int ((2 ^ k : Nat) : Int)), none, none, none]) (by simp only [List.set_cons_succ, List.set_cons_zero, q_sasg, q_spar, q_sret, q_sretS, q_sife, q_snil, q_tn, q_tr, q_lst, q_tup, q_call, q_cons, q_nil, q_cI, q_ari, q_ix, q_sl, q_s0, q_s1, q_ki, q_kn, q_kb, q_ks, q_neg, q_negD, q_ci, q_cb, q_cs, q_cn, if_true, q_ok, q_ii, q_or, q_and, q_one, q_not, q_cmp, q_eq, q_ne, q_lt, q_le, q_gt, q_ge, q_is, q_isnot, q_isnN, q_isnI, q_isnL, q_isnT, q_notR, q_boolD, Bool.not_true, Bool.not_false, List.length_cons, List.length_nil, sz (show 0 ≤ 1000000 by decide), sz (show 0 + 1 ≤ 1000000 by decide), sz (show 0 + 1 + 1 ≤ 1000000 by decide), q_lok, q_t1, q_t2, q_t3, q_t4, q_blt, q_blt1, q_blt2, q_eqi, e0]) ?_
  refine sq (δ1 := [some (.int (k : Int)), some (.int (a : Int)), some (.int (b : Int)), some (.int ((2 ^ k : Nat) : Int)), some (iN []), none, none]) (by simp only [List.set_cons_succ, List.set_cons_zero, q_sasg, q_spar, q_sret, q_sretS, q_sife, q_snil, q_tn, q_tr, q_lst, q_tup, q_call, q_cons, q_nil, q_cI, q_ari, q_ix, q_sl, q_s0, q_s1, q_ki, q_kn, q_kb, q_ks, q_neg, q_negD, q_ci, q_cb, q_cs, q_cn, if_true, q_ok, q_ii, q_or, q_and, q_one, q_not, q_cmp, q_eq, q_ne, q_lt, q_le, q_gt, q_ge, q_is, q_isnot, q_isnN, q_isnI, q_isnL, q_isnT, q_notR, q_boolD, Bool.not_true, Bool.not_false, List.length_cons, List.length_nil, sz (show 0 ≤ 1000000 by decide), sz (show 0 + 1 ≤ 1000000 by decide), sz (show 0 + 1 + 1 ≤ 1000000 by decide), q_lok, q_t1, q_t2, q_t3, q_t4, q_blt, q_blt1, q_blt2, q_eqi]; rfl) ?_
  refine sq (δ1 := [some (.int (k : Int)), some (.int (a : Int)), some (.int (b : Int)), some (.int ((2 ^ k : Nat) : Int)), some (iN []), some (.int (ol k a b 0 : Int)), none]) (by rw [(a_ol0 k (by omega) a ha b hb).1]; simp only [List.set_cons_succ, List.set_cons_zero, q_sasg, q_spar, q_sret, q_sretS, q_sife, q_snil, q_tn, q_tr, q_lst, q_tup, q_call, q_cons, q_nil, q_cI, q_ari, q_ix, q_sl, q_s0, q_s1, q_ki, q_kn, q_kb, q_ks, q_neg, q_negD, q_ci, q_cb, q_cs, q_cn, if_true, q_ok, q_ii, q_or, q_and, q_one, q_not, q_cmp, q_eq, q_ne, q_lt, q_le, q_gt, q_ge, q_is, q_isnot, q_isnN, q_isnI, q_isnL, q_isnT, q_notR, q_boolD, Bool.not_true, Bool.not_false, List.length_cons, List.length_nil, sz (show 0 ≤ 1000000 by decide), sz (show 0 + 1 ≤ 1000000 by decide), sz (show 0 + 1 + 1 ≤ 1000000 by decide), q_lok, q_t1, q_t2, q_t3, q_t4, q_blt, q_blt1, q_blt2, q_eqi]) ?_
  refine sq_rng k rfl (by omega) (by omega) (fun t δ => ∃ x, δ = [some (.int (k : Int)), some (.int (a : Int)), some (.int (b : Int)), some (.int ((2 ^ k : Nat) : Int)), some (iN ((List.range t).map fun t => ol k a b (t + 1))), some (.int (ol k a b t : Int)), x]) ⟨_, rfl⟩ (fun t δ ht hI => ?_) (fun δ' hI => ?_)
  · obtain ⟨x, rfl⟩ := hI
    have ht : t < k := by omega
    have e1 := n_sub1 (a := k) (by omega)
    have e2 := n_sub (a := k - 1) (b := t) (by omega)
    have e3 := n_shr b (k - 1 - t)
    have e4 := n_mod2 (b / 2 ^ (k - 1 - t))
    have e5 := n_2mul (ol k a b t)
    have e6 := n_add (2 * ol k a b t) (b / 2 ^ (k - 1 - t) % 2)
    have e7 := n_mod (2 * ol k a b t + b / 2 ^ (k - 1 - t) % 2) p1.1
    rw [a_step0 k (by omega) t ht a ha b hb] at e7
    refine ⟨_, sq (δ1 := [some (.int (k : Int)), some (.int (a : Int)), some (.int (b : Int)), some (.int ((2 ^ k : Nat) : Int)), some (iN ((List.range t).map fun t => ol k a b (t + 1))), some (.int (ol k a b (t + 1) : Int)), some (.int (t : Int))]) (by simp only [List.set_cons_succ, List.set_cons_zero, q_sasg, q_spar, q_sret, q_sretS, q_sife, q_snil, q_tn, q_tr, q_lst, q_tup, q_call, q_cons, q_nil, q_cI, q_ari, q_ix, q_sl, q_s0, q_s1, q_ki, q_kn, q_kb, q_ks, q_neg, q_negD, q_ci, q_cb, q_cs, q_cn, if_true, q_ok, q_ii, q_or, q_and, q_one, q_not, q_cmp, q_eq, q_ne, q_lt, q_le, q_gt, q_ge, q_is, q_isnot, q_isnN, q_isnI, q_isnL, q_isnT, q_notR, q_boolD, Bool.not_true, Bool.not_false, List.length_cons, List.length_nil, sz (show 0 ≤ 1000000 by decide), sz (show 0 + 1 ≤ 1000000 by decide), sz (show 0 + 1 + 1 ≤ 1000000 by decide), q_lok, q_t1, q_t2, q_t3, q_t4, q_blt, q_blt1, q_blt2, q_eqi, e1, e2, e3, e4, e5, e6, e7]) (sq (δ1 := [some (.int (k : Int)), some (.int (a : Int)), some (.int (b : Int)), some (.int ((2 ^ k : Nat) : Int)), some (iN ((List.range (t + 1)).map fun t => ol k a b (t + 1))), some (.int (ol k a b (t + 1) : Int)), some (.int (t : Int))]) ?_ rfl), _, rfl⟩
    rw [q_appG (l := ((List.range t).map fun t => ol k a b (t + 1)).map fun (c : Nat) => PyData.int (c : Int)) (d := .int (ol k a b (t + 1) : Int)) rfl (by simp only [List.set_cons_succ, List.set_cons_zero, q_sasg, q_spar, q_sret, q_sretS, q_sife, q_snil, q_tn, q_tr, q_lst, q_tup, q_call, q_cons, q_nil, q_cI, q_ari, q_ix, q_sl, q_s0, q_s1, q_ki, q_kn, q_kb, q_ks, q_neg, q_negD, q_ci, q_cb, q_cs, q_cn, if_true, q_ok, q_ii, q_or, q_and, q_one, q_not, q_cmp, q_eq, q_ne, q_lt, q_le, q_gt, q_ge, q_is, q_isnot, q_isnN, q_isnI, q_isnL, q_isnT, q_notR, q_boolD, Bool.not_true, Bool.not_false, List.length_cons, List.length_nil, sz (show 0 ≤ 1000000 by decide), sz (show 0 + 1 ≤ 1000000 by decide), sz (show 0 + 1 + 1 ≤ 1000000 by decide), q_lok, q_t1, q_t2, q_t3, q_t4, q_blt, q_blt1, q_blt2, q_eqi]) (by simp; omega), List.range_succ]
    unfold iN
    rw [List.map_append, List.map_append]
    rfl
  · obtain ⟨x, rfl⟩ := hI
    exact sqx rfl
theorem f_lfly : F_law_fly [.int (k : Int), .int (a : Int), .int (b : Int)] = .ok (iN (bw k a b)) := by
  have p1 := p5 hk
  refine F_rt (s := T_law_fly) (δ := [some (.int (k : Int)), some (.int (a : Int)), some (.int (b : Int)), none, none, none, none]) rfl rfl ?_
  unfold T_law_fly
  refine sq (δ1 := [some (.int (k : Int)), some (.int (a : Int)), some (.int (b : Int)), some (iN []), none, none, none]) (by simp only [List.set_cons_succ, List.set_cons_zero, q_sasg, q_spar, q_sret, q_sretS, q_sife, q_snil, q_tn, q_tr, q_lst, q_tup, q_call, q_cons, q_nil, q_cI, q_ari, q_ix, q_sl, q_s0, q_s1, q_ki, q_kn, q_kb, q_ks, q_neg, q_negD, q_ci, q_cb, q_cs, q_cn, if_true, q_ok, q_ii, q_or, q_and, q_one, q_not, q_cmp, q_eq, q_ne, q_lt, q_le, q_gt, q_ge, q_is, q_isnot, q_isnN, q_isnI, q_isnL, q_isnT, q_notR, q_boolD, Bool.not_true, Bool.not_false, List.length_cons, List.length_nil, sz (show 0 ≤ 1000000 by decide), sz (show 0 + 1 ≤ 1000000 by decide), sz (show 0 + 1 + 1 ≤ 1000000 by decide), q_lok, q_t1, q_t2, q_t3, q_t4, q_blt, q_blt1, q_blt2, q_eqi]; rfl) ?_
  refine sq (δ1 := [some (.int (k : Int)), some (.int (a : Int)), some (.int (b : Int)), some (iN []), some (.int (bl k a b 0 : Int)), none, none]) (by rw [(a_ol0 k (by omega) a ha b hb).2.2]; simp only [List.set_cons_succ, List.set_cons_zero, q_sasg, q_spar, q_sret, q_sretS, q_sife, q_snil, q_tn, q_tr, q_lst, q_tup, q_call, q_cons, q_nil, q_cI, q_ari, q_ix, q_sl, q_s0, q_s1, q_ki, q_kn, q_kb, q_ks, q_neg, q_negD, q_ci, q_cb, q_cs, q_cn, if_true, q_ok, q_ii, q_or, q_and, q_one, q_not, q_cmp, q_eq, q_ne, q_lt, q_le, q_gt, q_ge, q_is, q_isnot, q_isnN, q_isnI, q_isnL, q_isnT, q_notR, q_boolD, Bool.not_true, Bool.not_false, List.length_cons, List.length_nil, sz (show 0 ≤ 1000000 by decide), sz (show 0 + 1 ≤ 1000000 by decide), sz (show 0 + 1 + 1 ≤ 1000000 by decide), q_lok, q_t1, q_t2, q_t3, q_t4, q_blt, q_blt1, q_blt2, q_eqi]) ?_
  refine sq_rng k rfl (by omega) (by omega) (fun t δ => ∃ x y, δ = [some (.int (k : Int)), some (.int (a : Int)), some (.int (b : Int)), some (iN ((List.range t).map fun t => bl k a b (t + 1))), some (.int (bl k a b t : Int)), x, y]) ⟨_, _, rfl⟩ (fun t δ ht hI => ?_) (fun δ' hI => ?_)
  · obtain ⟨x, y, rfl⟩ := hI
    have ht : t < k := by omega
    have q1 := p5 (k := k - 1 - t) (by omega)
    have e1 := n_sub1 (a := k) (by omega)
    have e2 := n_sub (a := k - 1) (b := t) (by omega)
    have e3 := n_shl (k := k - 1 - t) (by omega)
    have e4 := n_2mul (2 ^ (k - 1 - t))
    have e5 := n_mod (bl k a b t) (m := 2 * 2 ^ (k - 1 - t)) (by omega)
    have e6 := n_sub (a := bl k a b t) (b := bl k a b t % (2 * 2 ^ (k - 1 - t))) (Nat.mod_le _ _)
    have e7 := n_mod b (m := 2 * 2 ^ (k - 1 - t)) (by omega)
    have e8 := n_mod b (m := 2 ^ (k - 1 - t)) (by omega)
    have e9 := n_sub (a_flq0 k (by omega) t ht b hb)
    have e10 := n_add (bl k a b t - bl k a b t % (2 * 2 ^ (k - 1 - t))) (b % (2 * 2 ^ (k - 1 - t)) - b % 2 ^ (k - 1 - t))
    have e11 := n_mod (bl k a b t) (m := 2 ^ (k - 1 - t)) (by omega)
    have e12 := n_add (bl k a b t - bl k a b t % (2 * 2 ^ (k - 1 - t)) + (b % (2 * 2 ^ (k - 1 - t)) - b % 2 ^ (k - 1 - t))) (bl k a b t % 2 ^ (k - 1 - t))
    rw [a_fly0 k (by omega) t ht a ha b hb] at e12
    refine ⟨_, sq (δ1 := [some (.int (k : Int)), some (.int (a : Int)), some (.int (b : Int)), some (iN ((List.range t).map fun t => bl k a b (t + 1))), some (.int (bl k a b t : Int)), some (.int (t : Int)), some (.int ((2 ^ (k - 1 - t) : Nat) : Int))]) (by simp only [List.set_cons_succ, List.set_cons_zero, q_sasg, q_spar, q_sret, q_sretS, q_sife, q_snil, q_tn, q_tr, q_lst, q_tup, q_call, q_cons, q_nil, q_cI, q_ari, q_ix, q_sl, q_s0, q_s1, q_ki, q_kn, q_kb, q_ks, q_neg, q_negD, q_ci, q_cb, q_cs, q_cn, if_true, q_ok, q_ii, q_or, q_and, q_one, q_not, q_cmp, q_eq, q_ne, q_lt, q_le, q_gt, q_ge, q_is, q_isnot, q_isnN, q_isnI, q_isnL, q_isnT, q_notR, q_boolD, Bool.not_true, Bool.not_false, List.length_cons, List.length_nil, sz (show 0 ≤ 1000000 by decide), sz (show 0 + 1 ≤ 1000000 by decide), sz (show 0 + 1 + 1 ≤ 1000000 by decide), q_lok, q_t1, q_t2, q_t3, q_t4, q_blt, q_blt1, q_blt2, q_eqi, e1, e2, e3]) (sq (δ1 := [some (.int (k : Int)), some (.int (a : Int)), some (.int (b : Int)), some (iN ((List.range t).map fun t => bl k a b (t + 1))), some (.int (bl k a b (t + 1) : Int)), some (.int (t : Int)), some (.int ((2 ^ (k - 1 - t) : Nat) : Int))]) (by simp only [List.set_cons_succ, List.set_cons_zero, q_sasg, q_spar, q_sret, q_sretS, q_sife, q_snil, q_tn, q_tr, q_lst, q_tup, q_call, q_cons, q_nil, q_cI, q_ari, q_ix, q_sl, q_s0, q_s1, q_ki, q_kn, q_kb, q_ks, q_neg, q_negD, q_ci, q_cb, q_cs, q_cn, if_true, q_ok, q_ii, q_or, q_and, q_one, q_not, q_cmp, q_eq, q_ne, q_lt, q_le, q_gt, q_ge, q_is, q_isnot, q_isnN, q_isnI, q_isnL, q_isnT, q_notR, q_boolD, Bool.not_true, Bool.not_false, List.length_cons, List.length_nil, sz (show 0 ≤ 1000000 by decide), sz (show 0 + 1 ≤ 1000000 by decide), sz (show 0 + 1 + 1 ≤ 1000000 by decide), q_lok, q_t1, q_t2, q_t3, q_t4, q_blt, q_blt1, q_blt2, q_eqi, e4, e5, e6, e7, e8, e9, e10, e11, e12]) (sq (δ1 := [some (.int (k : Int)), some (.int (a : Int)), some (.int (b : Int)), some (iN ((List.range (t + 1)).map fun t => bl k a b (t + 1))), some (.int (bl k a b (t + 1) : Int)), some (.int (t : Int)), some (.int ((2 ^ (k - 1 - t) : Nat) : Int))]) ?_ rfl)), _, _, rfl⟩
    rw [q_appG (l := ((List.range t).map fun t => bl k a b (t + 1)).map fun (c : Nat) => PyData.int (c : Int)) (d := .int (bl k a b (t + 1) : Int)) rfl (by simp only [List.set_cons_succ, List.set_cons_zero, q_sasg, q_spar, q_sret, q_sretS, q_sife, q_snil, q_tn, q_tr, q_lst, q_tup, q_call, q_cons, q_nil, q_cI, q_ari, q_ix, q_sl, q_s0, q_s1, q_ki, q_kn, q_kb, q_ks, q_neg, q_negD, q_ci, q_cb, q_cs, q_cn, if_true, q_ok, q_ii, q_or, q_and, q_one, q_not, q_cmp, q_eq, q_ne, q_lt, q_le, q_gt, q_ge, q_is, q_isnot, q_isnN, q_isnI, q_isnL, q_isnT, q_notR, q_boolD, Bool.not_true, Bool.not_false, List.length_cons, List.length_nil, sz (show 0 ≤ 1000000 by decide), sz (show 0 + 1 ≤ 1000000 by decide), sz (show 0 + 1 + 1 ≤ 1000000 by decide), q_lok, q_t1, q_t2, q_t3, q_t4, q_blt, q_blt1, q_blt2, q_eqi]) (by simp; omega), List.range_succ]
    unfold iN
    rw [List.map_append, List.map_append]
    rfl
  · obtain ⟨x, y, rfl⟩ := hI
    exact sqx rfl
end
end VS
set_option Elab.async false
set_option linter.all false
set_option maxRecDepth 100000
namespace VS
open PySem PySem.Spec L2
open PyProof.Rows hiding St
/-! ### loops that may stop -/
theorem forL_two {f : D → Sl → Out} {xs : List D} {I : Nat → Sl → Prop} {G : D → Prop} : ∀ (m n : Nat) (δ : Sl), n + m = xs.length → I n δ →
    (∀ i δ, (hi : i < xs.length) → I i δ → (∃ d, f xs[i] δ = .rt d ∧ G d) ∨ ∃ δ', f xs[i] δ = .nx δ' ∧ I (i + 1) δ') →
    (∃ d, forL f (xs.drop n) δ = .rt d ∧ G d) ∨ ∃ δ', forL f (xs.drop n) δ = .nx δ' ∧ I xs.length δ'
  | 0, n, δ, hn, h0, h => by
    refine .inr ⟨δ, ?_, ?_⟩
    · rw [List.drop_of_length_le (by omega)]; rfl
    · rw [← hn]; exact h0
  | m + 1, n, δ, hn, h0, h => by
    have hi : n < xs.length := by omega
    have e : forL f (xs.drop n) δ = (f xs[n] δ).thn (forL f (xs.drop (n + 1))) := by
      rw [List.drop_eq_getElem_cons hi]; rfl
    rw [e]
    rcases h n δ hi h0 with ⟨d, e1, g⟩ | ⟨δ', e1, hI⟩
    · exact .inl ⟨d, by rw [e1]; rfl, g⟩
    · rw [e1, q_tn]
      exact forL_two m (n + 1) δ' (by omega) hI h
theorem s_for2 {tg : Tg} {it : E} {im : Bool} {τ : Tys} {s : S} {δ : Sl} {xs : List D} (h1 : (ev it δ >>= iterD) = .ok xs) (h2 : (!im || immL xs) = true) (I : Nat → Sl → Prop) (G : D → Prop) (h0 : I 0 δ)
    (h : ∀ i δ, (hi : i < xs.length) → I i δ → ∃ δ1, setTg tg xs[i] δ = .ok δ1 ∧ ((∃ d, sev s δ1 = .rt d ∧ G d) ∨ ∃ δ', sev s δ1 = .nx δ' ∧ I (i + 1) δ')) :
    (∃ d, sev (.forE tg it im τ s) δ = .rt d ∧ G d) ∨ ∃ δ', sev (.forE tg it im τ s) δ = .nx δ' ∧ I xs.length δ' := by
  have e : sev (.forE tg it im τ s) δ = forL (fun x δ => lft δ (setTg tg x δ) (sev s)) xs δ := by
    rw [q_sfor, h1, q_lok, h2]
  rw [e]
  have := forL_two (f := fun x δ => lft δ (setTg tg x δ) (sev s)) (xs := xs) (I := I) (G := G) xs.length 0 δ (by omega) h0 fun i δ hi hI => by
    obtain ⟨δ1, e1, h⟩ := h i δ hi hI
    show (∃ d, lft δ (setTg tg xs[i] δ) (sev s) = .rt d ∧ G d) ∨ ∃ δ', lft δ (setTg tg xs[i] δ) (sev s) = .nx δ' ∧ I (i + 1) δ'
    rw [e1, q_lok]
    exact h
  exact this
theorem immL_rngN (c n : Nat) : immL ((List.range n).map fun (i : Nat) => PyData.int ((c + i : Nat) : Int)) = true := immL_all fun d hd => by
  obtain ⟨i, _, rfl⟩ := List.mem_map.mp hd
  rfl
theorem s_rgn {i : Nat} {a : E} {τ : Tys} {s : S} {δ : Sl} {n : Nat} (h1 : ev a δ = .ok (.int (n : Int))) (hn : n ≤ 1000000) (I : Nat → Sl → Prop) (G : D → Prop) (h0 : I 0 δ)
    (h : ∀ k δ, k < n → I k δ → (∃ d, sev s (δ.set i (some (.int (k : Int)))) = .rt d ∧ G d) ∨ ∃ δ', sev s (δ.set i (some (.int (k : Int)))) = .nx δ' ∧ I (k + 1) δ') :
    (∃ d, sev (.forE (.one i) (.rng1 a) true τ s) δ = .rt d ∧ G d) ∨ ∃ δ', sev (.forE (.one i) (.rng1 a) true τ s) δ = .nx δ' ∧ I n δ' := by
  have := s_for2 (tg := .one i) (it := .rng1 a) (im := true) (τ := τ) (s := s) (δ := δ) (xs := (List.range n).map fun (i : Nat) => PyData.int (i : Int)) (ev_rng1 h1 hn) (by have := immL_rngN 0 n; simp only [Nat.zero_add] at this; rw [this]; rfl) I G h0 fun k δ hk hI => by
    have hk : k < n := by simpa using hk
    refine ⟨_, rfl, ?_⟩
    rw [List.getElem_map, List.getElem_range]
    exact h k δ hk hI
  rw [List.length_map, List.length_range] at this
  exact this
theorem s_rgn2 {i : Nat} {a b : E} {τ : Tys} {s : S} {δ : Sl} {m n : Nat} (h1 : ev a δ = .ok (.int (m : Int))) (h2 : ev b δ = .ok (.int (n : Int))) (hm : m ≤ 100000) (hn : n ≤ 100000) (hmn : m ≤ n) (I : Nat → Sl → Prop) (G : D → Prop) (h0 : I m δ)
    (h : ∀ k δ, m ≤ k → k < n → I k δ → (∃ d, sev s (δ.set i (some (.int (k : Int)))) = .rt d ∧ G d) ∨ ∃ δ', sev s (δ.set i (some (.int (k : Int)))) = .nx δ' ∧ I (k + 1) δ') :
    (∃ d, sev (.forE (.one i) (.rng2 a b) true τ s) δ = .rt d ∧ G d) ∨ ∃ δ', sev (.forE (.one i) (.rng2 a b) true τ s) δ = .nx δ' ∧ I n δ' := by
  have := s_for2 (tg := .one i) (it := .rng2 a b) (im := true) (τ := τ) (s := s) (δ := δ) (xs := (List.range (n - m)).map fun (i : Nat) => PyData.int ((m + i : Nat) : Int)) (ev_rng2 h1 h2 hm hn) (by rw [immL_rngN m (n - m)]; rfl) (fun i => I (m + i)) G h0 fun k δ hk hI => by
    have hk : k < n - m := by simpa using hk
    refine ⟨_, rfl, ?_⟩
    rw [List.getElem_map, List.getElem_range]
    exact h (m + k) δ (by omega) (by omega) hI
  rw [List.length_map, List.length_range] at this
  rw [show m + (n - m) = n by omega] at this
  exact this
/-! ### ways with a common lane -/
def wv (ws : List (List Nat)) (i t : Nat) : Nat := (ws.getD i []).getD t 0
def Apt (u v : List Nat) : Prop := ∀ t, t < u.length → u.getD t 0 ≠ v.getD t 0
def AllAp (ws : List (List Nat)) : Prop := ∀ a b, a < b → b < ws.length → Apt (ws.getD a []) (ws.getD b [])
theorem eq_cast (a b : Nat) : decide (((a : Nat) : Int) = (b : Int)) = decide (a = b) := by rw [decide_eq_decide]; omega
theorem f_common {u v : List Nat} (h : u.length = v.length) (hl : u.length ≤ 1000) :
    (∃ t : Nat, t < u.length ∧ u.getD t 0 = v.getD t 0 ∧ Ffirst_common [iN u, iN v] = .ok (.int (t : Int))) ∨ (Apt u v ∧ Ffirst_common [iN u, iN v] = .ok .none) := by
  rcases s_rgn (i := 2) (a := .blt .len (.cons (.sl 0) .nil)) (τ := [some (.S, true), some (.S, true), some (.F, false)]) (s := (.seq (.ife (.cmp .Eq (.ix (.sl 0) (.sl 2)) (.ix (.sl 1) (.sl 2))) (.seq (.retS 2) .nil) .nil) .nil)) (δ := [some (iN u), some (iN v), none]) (n := u.length) (by simp only [List.set_cons_succ, List.set_cons_zero, q_sasg, q_spar, q_sret, q_sretS, q_sife, q_snil, q_tn, q_tr, q_lst, q_tup, q_call, q_cons, q_nil, q_cI, q_ari, q_ix, q_sl, q_s0, q_s1, q_ki, q_kn, q_kb, q_ks, q_neg, q_negD, q_ci, q_cb, q_cs, q_cn, if_true, q_ok, q_ii, q_or, q_and, q_one, q_not, q_cmp, q_eq, q_ne, q_lt, q_le, q_gt, q_ge, q_is, q_isnot, q_isnN, q_isnI, q_isnL, q_isnT, q_notR, q_boolD, Bool.not_true, Bool.not_false, List.length_cons, List.length_nil, sz (show 0 ≤ 1000000 by decide), sz (show 0 + 1 ≤ 1000000 by decide), sz (show 0 + 1 + 1 ≤ 1000000 by decide), q_lok, q_t1, q_t2, q_t3, q_t4, q_blt, q_blt1, q_blt2, q_eqi, iN_len]) (by omega)
    (fun k δ => ∃ x, δ = [some (iN u), some (iN v), x] ∧ ∀ t, t < k → u.getD t 0 ≠ v.getD t 0) (fun d => ∃ t : Nat, t < u.length ∧ u.getD t 0 = v.getD t 0 ∧ d = .int (t : Int)) ⟨_, rfl, fun t ht => by omega⟩ (fun k δ hk hI => by
      obtain ⟨x, rfl, hI⟩ := hI
      have a1 := iN_at (l := u) hk
      have a2 := iN_at (l := v) (i := k) (by omega)
      by_cases c : u.getD k 0 = v.getD k 0
      · refine .inl ⟨.int (k : Int), sqx ?_, k, hk, c, rfl⟩
        simp only [List.set_cons_succ, List.set_cons_zero, q_sasg, q_spar, q_sret, q_sretS, q_sife, q_snil, q_tn, q_tr, q_lst, q_tup, q_call, q_cons, q_nil, q_cI, q_ari, q_ix, q_sl, q_s0, q_s1, q_ki, q_kn, q_kb, q_ks, q_neg, q_negD, q_ci, q_cb, q_cs, q_cn, if_true, q_ok, q_ii, q_or, q_and, q_one, q_not, q_cmp, q_eq, q_ne, q_lt, q_le, q_gt, q_ge, q_is, q_isnot, q_isnN, q_isnI, q_isnL, q_isnT, q_notR, q_boolD, Bool.not_true, Bool.not_false, List.length_cons, List.length_nil, sz (show 0 ≤ 1000000 by decide), sz (show 0 + 1 ≤ 1000000 by decide), sz (show 0 + 1 + 1 ≤ 1000000 by decide), q_lok, q_t1, q_t2, q_t3, q_t4, q_blt, q_blt1, q_blt2, q_eqi, a1, a2, eq_cast, decide_eq_true c]
        exact sqx rfl
      · refine .inr ⟨[some (iN u), some (iN v), some (.int (k : Int))], sq (δ1 := [some (iN u), some (iN v), some (.int (k : Int))]) ?_ rfl, _, rfl, fun t ht => ?_⟩
        · simp only [List.set_cons_succ, List.set_cons_zero, q_sasg, q_spar, q_sret, q_sretS, q_sife, q_snil, q_tn, q_tr, q_lst, q_tup, q_call, q_cons, q_nil, q_cI, q_ari, q_ix, q_sl, q_s0, q_s1, q_ki, q_kn, q_kb, q_ks, q_neg, q_negD, q_ci, q_cb, q_cs, q_cn, if_true, q_ok, q_ii, q_or, q_and, q_one, q_not, q_cmp, q_eq, q_ne, q_lt, q_le, q_gt, q_ge, q_is, q_isnot, q_isnN, q_isnI, q_isnL, q_isnT, q_notR, q_boolD, Bool.not_true, Bool.not_false, List.length_cons, List.length_nil, sz (show 0 ≤ 1000000 by decide), sz (show 0 + 1 ≤ 1000000 by decide), sz (show 0 + 1 + 1 ≤ 1000000 by decide), q_lok, q_t1, q_t2, q_t3, q_t4, q_blt, q_blt1, q_blt2, q_eqi, a1, a2, eq_cast, decide_eq_false c]
        · by_cases e : t = k
          · rw [e]; exact c
          · exact hI t (by omega)) with ⟨d, e, t, h1, h2, rfl⟩ | ⟨δ', e, x, rfl, hI⟩
  · exact .inl ⟨t, h1, h2, F_rt (s := Tfirst_common) (δ := [some (iN u), some (iN v), none]) rfl rfl (sqx e)⟩
  · exact .inr ⟨hI, F_rt (s := Tfirst_common) (δ := [some (iN u), some (iN v), none]) rfl rfl (sq e (sqx rfl))⟩
def Lk (k : Nat) (ws : List (List Nat)) : Prop := ∀ i, i < ws.length → (ws.getD i []).length = k
theorem f_clash {ws : List (List Nat)} {k : Nat} (hk : k ≤ 1000) (hw : Lk k ws) (hl : ws.length ≤ 1000) :
    (∃ a b t : Nat, a < b ∧ b < ws.length ∧ t < k ∧ wv ws a t = wv ws b t ∧ Ffirst_clash [bN ws] = .ok (.tuple [.int (a : Int), .int (b : Int), .int (t : Int)])) ∨ (AllAp ws ∧ Ffirst_clash [bN ws] = .ok .none) := by
  generalize hB : (S.seq (.asg (.one 3) (.call "first_common" Ffirst_common .F (.cons (.ix (.sl 0) (.sl 1)) (.cons (.ix (.sl 0) (.sl 2)) .nil)))) (.seq (.ife (.cmp .IsNot (.sl 3) (.k (.none))) (.seq (.ret (.tup (.cons (.cI (.sl 1)) (.cons (.cI (.sl 2)) (.cons (.cI (.sl 3)) .nil))))) .nil) .nil) .nil)) = B
  generalize hT : [some (Ty.S, true), some (.F, false), some (.F, false), some (.F, false)] = τ
  have inner : ∀ a x2 x3, a < ws.length → (∃ d, sev (.forE (.one 2) (.rng2 (.ari .Add (.sl 1) (.k (.int 1))) (.blt .len (.cons (.sl 0) .nil))) true τ B) [some (bN ws), some (.int (a : Int)), x2, x3] = .rt d ∧ ∃ a b t : Nat, a < b ∧ b < ws.length ∧ t < k ∧ wv ws a t = wv ws b t ∧ d = .tuple [.int (a : Int), .int (b : Int), .int (t : Int)]) ∨
      ∃ δ', sev (.forE (.one 2) (.rng2 (.ari .Add (.sl 1) (.k (.int 1))) (.blt .len (.cons (.sl 0) .nil))) true τ B) [some (bN ws), some (.int (a : Int)), x2, x3] = .nx δ' ∧ ∃ x2 x3, δ' = [some (bN ws), some (.int (a : Int)), x2, x3] ∧ ∀ b, a < b → b < ws.length → Apt (ws.getD a []) (ws.getD b []) := by
    intro a x2 x3 ha
    refine s_rgn2 (m := a + 1) (n := ws.length) (by simp only [List.set_cons_succ, List.set_cons_zero, q_sasg, q_spar, q_sret, q_sretS, q_sife, q_snil, q_tn, q_tr, q_lst, q_tup, q_call, q_cons, q_nil, q_cI, q_ari, q_ix, q_sl, q_s0, q_s1, q_ki, q_kn, q_kb, q_ks, q_neg, q_negD, q_ci, q_cb, q_cs, q_cn, if_true, q_ok, q_ii, q_or, q_and, q_one, q_not, q_cmp, q_eq, q_ne, q_lt, q_le, q_gt, q_ge, q_is, q_isnot, q_isnN, q_isnI, q_isnL, q_isnT, q_notR, q_boolD, Bool.not_true, Bool.not_false, List.length_cons, List.length_nil, sz (show 0 ≤ 1000000 by decide), sz (show 0 + 1 ≤ 1000000 by decide), sz (show 0 + 1 + 1 ≤ 1000000 by decide), q_lok, q_t1, q_t2, q_t3, q_t4, q_blt, q_blt1, q_blt2, q_eqi, n_add1]) (by simp only [List.set_cons_succ, List.set_cons_zero, q_sasg, q_spar, q_sret, q_sretS, q_sife, q_snil, q_tn, q_tr, q_lst, q_tup, q_call, q_cons, q_nil, q_cI, q_ari, q_ix, q_sl, q_s0, q_s1, q_ki, q_kn, q_kb, q_ks, q_neg, q_negD, q_ci, q_cb, q_cs, q_cn, if_true, q_ok, q_ii, q_or, q_and, q_one, q_not, q_cmp, q_eq, q_ne, q_lt, q_le, q_gt, q_ge, q_is, q_isnot, q_isnN, q_isnI, q_isnL, q_isnT, q_notR, q_boolD, Bool.not_true, Bool.not_false, List.length_cons, List.length_nil, sz (show 0 ≤ 1000000 by decide), sz (show 0 + 1 ≤ 1000000 by decide), sz (show 0 + 1 + 1 ≤ 1000000 by decide), q_lok, q_t1, q_t2, q_t3, q_t4, q_blt, q_blt1, q_blt2, q_eqi, bN_len]) (by omega) (by omega) (by omega) (fun b' δ' => ∃ x2 x3, δ' = [some (bN ws), some (.int (a : Int)), x2, x3] ∧ ∀ b, a < b → b < b' → Apt (ws.getD a []) (ws.getD b [])) _ ⟨_, _, rfl, fun b h1 h2 => by omega⟩ (fun b δ h1 h2 hI => ?_)
    obtain ⟨x2, x3, rfl, hI⟩ := hI
    have a1 := bN_at ha
    have a2 := bN_at h2
    have l1 := hw a ha
    have l2 := hw b h2
    rw [← hB]
    rcases f_common (u := ws.getD a []) (v := ws.getD b []) (by omega) (by omega) with ⟨t, ht, he, ef⟩ | ⟨hap, ef⟩
    · refine .inl ⟨_, sq (δ1 := [some (bN ws), some (.int (a : Int)), some (.int (b : Int)), some (.int (t : Int))]) (by simp only [List.set_cons_succ, List.set_cons_zero, q_sasg, q_spar, q_sret, q_sretS, q_sife, q_snil, q_tn, q_tr, q_lst, q_tup, q_call, q_cons, q_nil, q_cI, q_ari, q_ix, q_sl, q_s0, q_s1, q_ki, q_kn, q_kb, q_ks, q_neg, q_negD, q_ci, q_cb, q_cs, q_cn, if_true, q_ok, q_ii, q_or, q_and, q_one, q_not, q_cmp, q_eq, q_ne, q_lt, q_le, q_gt, q_ge, q_is, q_isnot, q_isnN, q_isnI, q_isnL, q_isnT, q_notR, q_boolD, Bool.not_true, Bool.not_false, List.length_cons, List.length_nil, sz (show 0 ≤ 1000000 by decide), sz (show 0 + 1 ≤ 1000000 by decide), sz (show 0 + 1 + 1 ≤ 1000000 by decide), q_lok, q_t1, q_t2, q_t3, q_t4, q_blt, q_blt1, q_blt2, q_eqi, a1, a2, ef]) (sqx ?_), a, b, t, by omega, h2, by omega, he, rfl⟩
      simp only [List.set_cons_succ, List.set_cons_zero, q_sasg, q_spar, q_sret, q_sretS, q_sife, q_snil, q_tn, q_tr, q_lst, q_tup, q_call, q_cons, q_nil, q_cI, q_ari, q_ix, q_sl, q_s0, q_s1, q_ki, q_kn, q_kb, q_ks, q_neg, q_negD, q_ci, q_cb, q_cs, q_cn, if_true, q_ok, q_ii, q_or, q_and, q_one, q_not, q_cmp, q_eq, q_ne, q_lt, q_le, q_gt, q_ge, q_is, q_isnot, q_isnN, q_isnI, q_isnL, q_isnT, q_notR, q_boolD, Bool.not_true, Bool.not_false, List.length_cons, List.length_nil, sz (show 0 ≤ 1000000 by decide), sz (show 0 + 1 ≤ 1000000 by decide), sz (show 0 + 1 + 1 ≤ 1000000 by decide), q_lok, q_t1, q_t2, q_t3, q_t4, q_blt, q_blt1, q_blt2, q_eqi]
      exact sqx (by simp only [List.set_cons_succ, List.set_cons_zero, q_sasg, q_spar, q_sret, q_sretS, q_sife, q_snil, q_tn, q_tr, q_lst, q_tup, q_call, q_cons, q_nil, q_cI, q_ari, q_ix, q_sl, q_s0, q_s1, q_ki, q_kn, q_kb, q_ks, q_neg, q_negD, q_ci, q_cb, q_cs, q_cn, if_true, q_ok, q_ii, q_or, q_and, q_one, q_not, q_cmp, q_eq, q_ne, q_lt, q_le, q_gt, q_ge, q_is, q_isnot, q_isnN, q_isnI, q_isnL, q_isnT, q_notR, q_boolD, Bool.not_true, Bool.not_false, List.length_cons, List.length_nil, sz (show 0 ≤ 1000000 by decide), sz (show 0 + 1 ≤ 1000000 by decide), sz (show 0 + 1 + 1 ≤ 1000000 by decide), q_lok, q_t1, q_t2, q_t3, q_t4, q_blt, q_blt1, q_blt2, q_eqi, sz (show 0 + 1 + 1 + 1 ≤ 1000000 by decide)])
    · refine .inr ⟨[some (bN ws), some (.int (a : Int)), some (.int (b : Int)), some .none], sq (δ1 := [some (bN ws), some (.int (a : Int)), some (.int (b : Int)), some .none]) (by simp only [List.set_cons_succ, List.set_cons_zero, q_sasg, q_spar, q_sret, q_sretS, q_sife, q_snil, q_tn, q_tr, q_lst, q_tup, q_call, q_cons, q_nil, q_cI, q_ari, q_ix, q_sl, q_s0, q_s1, q_ki, q_kn, q_kb, q_ks, q_neg, q_negD, q_ci, q_cb, q_cs, q_cn, if_true, q_ok, q_ii, q_or, q_and, q_one, q_not, q_cmp, q_eq, q_ne, q_lt, q_le, q_gt, q_ge, q_is, q_isnot, q_isnN, q_isnI, q_isnL, q_isnT, q_notR, q_boolD, Bool.not_true, Bool.not_false, List.length_cons, List.length_nil, sz (show 0 ≤ 1000000 by decide), sz (show 0 + 1 ≤ 1000000 by decide), sz (show 0 + 1 + 1 ≤ 1000000 by decide), q_lok, q_t1, q_t2, q_t3, q_t4, q_blt, q_blt1, q_blt2, q_eqi, a1, a2, ef]) (sq (δ1 := [some (bN ws), some (.int (a : Int)), some (.int (b : Int)), some .none]) (by simp only [List.set_cons_succ, List.set_cons_zero, q_sasg, q_spar, q_sret, q_sretS, q_sife, q_snil, q_tn, q_tr, q_lst, q_tup, q_call, q_cons, q_nil, q_cI, q_ari, q_ix, q_sl, q_s0, q_s1, q_ki, q_kn, q_kb, q_ks, q_neg, q_negD, q_ci, q_cb, q_cs, q_cn, if_true, q_ok, q_ii, q_or, q_and, q_one, q_not, q_cmp, q_eq, q_ne, q_lt, q_le, q_gt, q_ge, q_is, q_isnot, q_isnN, q_isnI, q_isnL, q_isnT, q_notR, q_boolD, Bool.not_true, Bool.not_false, List.length_cons, List.length_nil, sz (show 0 ≤ 1000000 by decide), sz (show 0 + 1 ≤ 1000000 by decide), sz (show 0 + 1 + 1 ≤ 1000000 by decide), q_lok, q_t1, q_t2, q_t3, q_t4, q_blt, q_blt1, q_blt2, q_eqi]) rfl), _, _, rfl, fun b' h3 h4 => ?_⟩
      by_cases e : b' = b
      · rw [e]; exact hap
      · exact hI b' h3 (by omega)
  rcases s_rgn (i := 1) (a := .blt .len (.cons (.sl 0) .nil)) (τ := τ) (s := (.seq (.forE (.one 2) (.rng2 (.ari .Add (.sl 1) (.k (.int 1))) (.blt .len (.cons (.sl 0) .nil))) true τ B) .nil)) (δ := [some (bN ws), none, none, none]) (n := ws.length) (by simp only [List.set_cons_succ, List.set_cons_zero, q_sasg, q_spar, q_sret, q_sretS, q_sife, q_snil, q_tn, q_tr, q_lst, q_tup, q_call, q_cons, q_nil, q_cI, q_ari, q_ix, q_sl, q_s0, q_s1, q_ki, q_kn, q_kb, q_ks, q_neg, q_negD, q_ci, q_cb, q_cs, q_cn, if_true, q_ok, q_ii, q_or, q_and, q_one, q_not, q_cmp, q_eq, q_ne, q_lt, q_le, q_gt, q_ge, q_is, q_isnot, q_isnN, q_isnI, q_isnL, q_isnT, q_notR, q_boolD, Bool.not_true, Bool.not_false, List.length_cons, List.length_nil, sz (show 0 ≤ 1000000 by decide), sz (show 0 + 1 ≤ 1000000 by decide), sz (show 0 + 1 + 1 ≤ 1000000 by decide), q_lok, q_t1, q_t2, q_t3, q_t4, q_blt, q_blt1, q_blt2, q_eqi, bN_len]) (by omega)
    (fun a' δ => ∃ x1 x2 x3, δ = [some (bN ws), x1, x2, x3] ∧ ∀ a, a < a' → ∀ b, a < b → b < ws.length → Apt (ws.getD a []) (ws.getD b [])) (fun d => ∃ a b t : Nat, a < b ∧ b < ws.length ∧ t < k ∧ wv ws a t = wv ws b t ∧ d = .tuple [.int (a : Int), .int (b : Int), .int (t : Int)]) ⟨_, _, _, rfl, fun a ha => by omega⟩ (fun a δ ha hI => by
      obtain ⟨x1, x2, x3, rfl, hI⟩ := hI
      rcases inner a x2 x3 ha with ⟨d, e, g⟩ | ⟨δ', e, x2', x3', rfl, g⟩
      · exact .inl ⟨d, sqx e, g⟩
      · refine .inr ⟨_, sq e rfl, _, _, _, rfl, fun a' h1 b h2 h3 => ?_⟩
        by_cases e : a' = a
        · subst e; exact g b h2 h3
        · exact hI a' (by omega) b h2 h3) with ⟨d, e, a, b, t, h1, h2, h3, h4, rfl⟩ | ⟨δ', e, x1, x2, x3, rfl, hI⟩
  · refine .inl ⟨a, b, t, h1, h2, h3, h4, F_rt (s := Tfirst_clash) (δ := [some (bN ws), none, none, none]) rfl rfl ?_⟩
    unfold Tfirst_clash
    rw [hB, hT]
    exact sqx e
  · refine .inr ⟨fun a b h1 h2 => hI a (by omega) b h1 h2, F_rt (s := Tfirst_clash) (δ := [some (bN ws), none, none, none]) rfl rfl ?_⟩
    unfold Tfirst_clash
    rw [hB, hT]
    exact sq e (sqx rfl)
theorem eq_nil (l : List Nat) : eqD (iN l) (.list []) = .ok (decide (l = [])) := by
  have e : (PyData.list []) = iN [] := rfl
  rw [e]
  by_cases c : l = []
  · subst c
    rw [eq_iN]; rfl
  · rw [ne_iN (by simpa using c), decide_eq_false c]
theorem f_apart {ws : List (List Nat)} {k : Nat} (hk : k ≤ 1000) (hw : Lk k ws) (hl : ws.length ≤ 1000) :
    (F_law_apart [bN ws] = .ok (.bool true) ∧ AllAp ws) ∨ (F_law_apart [bN ws] = .ok (.bool false) ∧ ¬ AllAp ws) := by
  generalize hB : (S.seq (.ife (.cmp .NotEq (.comp [("t", 3)] (.one 3) (.rng1 (.blt .len (.cons (.ix (.sl 0) (.sl 1)) .nil))) (.prt (.cmp .Eq (.ix (.ix (.sl 0) (.sl 2)) (.sl 3)) (.ix (.ix (.sl 0) (.sl 1)) (.sl 3)))) (.cI (.sl 3))) (.lst .nil))
(.seq (.ret (.k (.bool false)))
.nil)
.nil)
.nil) = B
  generalize hT : [some (Ty.S, true), some (.F, false), some (.F, false), some (.F, false)] = τ
  have inner : ∀ b x2 x3, b < ws.length → (∃ d, sev (.forE (.one 2) (.rng1 (.sl 1)) true τ B) [some (bN ws), some (.int (b : Int)), x2, x3] = .rt d ∧ d = .bool false ∧ ¬ AllAp ws) ∨
      ∃ δ', sev (.forE (.one 2) (.rng1 (.sl 1)) true τ B) [some (bN ws), some (.int (b : Int)), x2, x3] = .nx δ' ∧ ∃ x2 x3, δ' = [some (bN ws), some (.int (b : Int)), x2, x3] ∧ ∀ a, a < b → Apt (ws.getD a []) (ws.getD b []) := by
    intro b x2 x3 hb
    refine s_rgn (n := b) rfl (by omega) (fun a' δ' => ∃ x2 x3, δ' = [some (bN ws), some (.int (b : Int)), x2, x3] ∧ ∀ a, a < a' → Apt (ws.getD a []) (ws.getD b [])) _ ⟨_, _, rfl, fun b h2 => by omega⟩ (fun a δ ha hI => ?_)
    obtain ⟨x2, x3, rfl, hI⟩ := hI
    have a1 := bN_at (i := a) (b := ws) (by omega)
    have a2 := bN_at hb
    have l1 := hw a (by omega)
    have l2 := hw b hb
    have ec : ev (.comp [("t", 3)] (.one 3) (.rng1 (.blt .len (.cons (.ix (.sl 0) (.sl 1)) .nil))) (.prt (.cmp .Eq (.ix (.ix (.sl 0) (.sl 2)) (.sl 3)) (.ix (.ix (.sl 0) (.sl 1)) (.sl 3)))) (.cI (.sl 3))) [some (bN ws), some (.int (b : Int)), some (.int (a : Int)), x3] = .ok (iN ((List.range k).filter fun t => decide ((ws.getD a []).getD t 0 = (ws.getD b []).getD t 0))) := by
      rw [ev_compF (List.range k) (fun k => PyData.int (k : Int)) (fun k => PyData.int (k : Int)) (fun t => decide ((ws.getD a []).getD t 0 = (ws.getD b []).getD t 0)) (ev_rng1 (n := k) (by simp only [List.set_cons_succ, List.set_cons_zero, q_sasg, q_spar, q_sret, q_sretS, q_sife, q_snil, q_tn, q_tr, q_lst, q_tup, q_call, q_cons, q_nil, q_cI, q_ari, q_ix, q_sl, q_s0, q_s1, q_ki, q_kn, q_kb, q_ks, q_neg, q_negD, q_ci, q_cb, q_cs, q_cn, if_true, q_ok, q_ii, q_or, q_and, q_one, q_not, q_cmp, q_eq, q_ne, q_lt, q_le, q_gt, q_ge, q_is, q_isnot, q_isnN, q_isnI, q_isnL, q_isnT, q_notR, q_boolD, Bool.not_true, Bool.not_false, List.length_cons, List.length_nil, sz (show 0 ≤ 1000000 by decide), sz (show 0 + 1 ≤ 1000000 by decide), sz (show 0 + 1 + 1 ≤ 1000000 by decide), q_lok, q_t1, q_t2, q_t3, q_t4, q_blt, q_blt1, q_blt2, q_eqi, a2, iN_len, l2]) (by omega)) fun t ht => ?_]
      · rfl
      · have ht := List.mem_range.mp ht
        have b1 := iN_at (l := ws.getD a []) (i := t) (by omega)
        have b2 := iN_at (l := ws.getD b []) (i := t) (by omega)
        refine ⟨_, rfl, ?_, fun _ => ?_⟩
        · simp only [q_w1, q_w0, List.map_cons, List.map_nil, q_cprt, List.set_cons_succ, List.set_cons_zero, q_sasg, q_spar, q_sret, q_sretS, q_sife, q_snil, q_tn, q_tr, q_lst, q_tup, q_call, q_cons, q_nil, q_cI, q_ari, q_ix, q_sl, q_s0, q_s1, q_ki, q_kn, q_kb, q_ks, q_neg, q_negD, q_ci, q_cb, q_cs, q_cn, if_true, q_ok, q_ii, q_or, q_and, q_one, q_not, q_cmp, q_eq, q_ne, q_lt, q_le, q_gt, q_ge, q_is, q_isnot, q_isnN, q_isnI, q_isnL, q_isnT, q_notR, q_boolD, Bool.not_true, Bool.not_false, List.length_cons, List.length_nil, sz (show 0 ≤ 1000000 by decide), sz (show 0 + 1 ≤ 1000000 by decide), sz (show 0 + 1 + 1 ≤ 1000000 by decide), q_lok, q_t1, q_t2, q_t3, q_t4, q_blt, q_blt1, q_blt2, q_eqi, a1, a2, b1, b2, eq_cast]
        · simp only [q_w1, q_w0, List.map_cons, List.map_nil, List.set_cons_succ, List.set_cons_zero, q_sasg, q_spar, q_sret, q_sretS, q_sife, q_snil, q_tn, q_tr, q_lst, q_tup, q_call, q_cons, q_nil, q_cI, q_ari, q_ix, q_sl, q_s0, q_s1, q_ki, q_kn, q_kb, q_ks, q_neg, q_negD, q_ci, q_cb, q_cs, q_cn, if_true, q_ok, q_ii, q_or, q_and, q_one, q_not, q_cmp, q_eq, q_ne, q_lt, q_le, q_gt, q_ge, q_is, q_isnot, q_isnN, q_isnI, q_isnL, q_isnT, q_notR, q_boolD, Bool.not_true, Bool.not_false, List.length_cons, List.length_nil, sz (show 0 ≤ 1000000 by decide), sz (show 0 + 1 ≤ 1000000 by decide), sz (show 0 + 1 + 1 ≤ 1000000 by decide), q_lok, q_t1, q_t2, q_t3, q_t4, q_blt, q_blt1, q_blt2, q_eqi]
    have en := eq_nil ((List.range k).filter fun t => decide ((ws.getD a []).getD t 0 = (ws.getD b []).getD t 0))
    rw [← hB]
    by_cases c : (List.range k).filter (fun t => decide ((ws.getD a []).getD t 0 = (ws.getD b []).getD t 0)) = []
    · rw [decide_eq_true c] at en
      refine .inr ⟨[some (bN ws), some (.int (b : Int)), some (.int (a : Int)), x3], sq (δ1 := [some (bN ws), some (.int (b : Int)), some (.int (a : Int)), x3]) (by simp only [List.set_cons_succ, List.set_cons_zero, q_sasg, q_spar, q_sret, q_sretS, q_sife, q_snil, q_tn, q_tr, q_lst, q_tup, q_call, q_cons, q_nil, q_cI, q_ari, q_ix, q_sl, q_s0, q_s1, q_ki, q_kn, q_kb, q_ks, q_neg, q_negD, q_ci, q_cb, q_cs, q_cn, if_true, q_ok, q_ii, q_or, q_and, q_one, q_not, q_cmp, q_eq, q_ne, q_lt, q_le, q_gt, q_ge, q_is, q_isnot, q_isnN, q_isnI, q_isnL, q_isnT, q_notR, q_boolD, Bool.not_true, Bool.not_false, List.length_cons, List.length_nil, sz (show 0 ≤ 1000000 by decide), sz (show 0 + 1 ≤ 1000000 by decide), sz (show 0 + 1 + 1 ≤ 1000000 by decide), q_lok, q_t1, q_t2, q_t3, q_t4, q_blt, q_blt1, q_blt2, q_eqi, ec, en]) rfl, _, _, rfl, fun a' h1 => ?_⟩
      by_cases e : a' = a
      · subst e
        intro t ht he
        have := List.filter_eq_nil_iff.mp c t (List.mem_range.mpr (by omega))
        exact this (decide_eq_true he)
      · exact hI a' (by omega)
    · rw [decide_eq_false c] at en
      refine .inl ⟨.bool false, sqx ?_, rfl, fun hA => c (List.filter_eq_nil_iff.mpr fun t ht he => hA a b ha hb t (by have := List.mem_range.mp ht; omega) (of_decide_eq_true he))⟩
      simp only [List.set_cons_succ, List.set_cons_zero, q_sasg, q_spar, q_sret, q_sretS, q_sife, q_snil, q_tn, q_tr, q_lst, q_tup, q_call, q_cons, q_nil, q_cI, q_ari, q_ix, q_sl, q_s0, q_s1, q_ki, q_kn, q_kb, q_ks, q_neg, q_negD, q_ci, q_cb, q_cs, q_cn, if_true, q_ok, q_ii, q_or, q_and, q_one, q_not, q_cmp, q_eq, q_ne, q_lt, q_le, q_gt, q_ge, q_is, q_isnot, q_isnN, q_isnI, q_isnL, q_isnT, q_notR, q_boolD, Bool.not_true, Bool.not_false, List.length_cons, List.length_nil, sz (show 0 ≤ 1000000 by decide), sz (show 0 + 1 ≤ 1000000 by decide), sz (show 0 + 1 + 1 ≤ 1000000 by decide), q_lok, q_t1, q_t2, q_t3, q_t4, q_blt, q_blt1, q_blt2, q_eqi, ec, en]
      exact sqx rfl
  rcases s_rgn (i := 1) (a := .blt .len (.cons (.sl 0) .nil)) (τ := τ) (s := (.seq (.forE (.one 2) (.rng1 (.sl 1)) true τ B) .nil)) (δ := [some (bN ws), none, none, none]) (n := ws.length) (by simp only [List.set_cons_succ, List.set_cons_zero, q_sasg, q_spar, q_sret, q_sretS, q_sife, q_snil, q_tn, q_tr, q_lst, q_tup, q_call, q_cons, q_nil, q_cI, q_ari, q_ix, q_sl, q_s0, q_s1, q_ki, q_kn, q_kb, q_ks, q_neg, q_negD, q_ci, q_cb, q_cs, q_cn, if_true, q_ok, q_ii, q_or, q_and, q_one, q_not, q_cmp, q_eq, q_ne, q_lt, q_le, q_gt, q_ge, q_is, q_isnot, q_isnN, q_isnI, q_isnL, q_isnT, q_notR, q_boolD, Bool.not_true, Bool.not_false, List.length_cons, List.length_nil, sz (show 0 ≤ 1000000 by decide), sz (show 0 + 1 ≤ 1000000 by decide), sz (show 0 + 1 + 1 ≤ 1000000 by decide), q_lok, q_t1, q_t2, q_t3, q_t4, q_blt, q_blt1, q_blt2, q_eqi, bN_len]) (by omega)
    (fun b' δ => ∃ x1 x2 x3, δ = [some (bN ws), x1, x2, x3] ∧ ∀ b, b < b' → ∀ a, a < b → Apt (ws.getD a []) (ws.getD b [])) (fun d => d = .bool false ∧ ¬ AllAp ws) ⟨_, _, _, rfl, fun a ha => by omega⟩ (fun b δ hb hI => by
      obtain ⟨x1, x2, x3, rfl, hI⟩ := hI
      rcases inner b x2 x3 hb with ⟨d, e, g⟩ | ⟨δ', e, x2', x3', rfl, g⟩
      · exact .inl ⟨d, sqx e, g⟩
      · refine .inr ⟨_, sq e rfl, _, _, _, rfl, fun b' h1 a h2 => ?_⟩
        by_cases e : b' = b
        · subst e; exact g a h2
        · exact hI b' (by omega) a h2) with ⟨d, e, rfl, h1⟩ | ⟨δ', e, x1, x2, x3, rfl, hI⟩
  · refine .inr ⟨F_rt (s := T_law_apart) (δ := [some (bN ws), none, none, none]) rfl rfl ?_, h1⟩
    unfold T_law_apart
    rw [hB, hT]
    exact sqx e
  · refine .inl ⟨F_rt (s := T_law_apart) (δ := [some (bN ws), none, none, none]) rfl rfl ?_, fun a b h1 h2 => hI b h2 a h1⟩
    unfold T_law_apart
    rw [hB, hT]
    exact sq e (sqx rfl)
end VS
set_option Elab.async false
set_option linter.all false
set_option maxRecDepth 100000
namespace VS
open PySem PySem.Spec L2
open PyProof.Rows hiding St
/-! ### calls and tables as data -/
def pN (p : Nat × Nat) : D := .tuple [.int (p.1 : Int), .int (p.2 : Int)]
def cN (c : List (Nat × Nat)) : D := .list (c.map pN)
def oN : Option Bool → D
  | none => .none
  | some b => .bool b
def rN (r : List (Option Bool)) : D := .list (r.map oN)
def tN (T : List (List (Option Bool))) : D := .list (T.map rN)
def ca (c : List (Nat × Nat)) (i : Nat) : Nat := (c.getD i (0, 0)).1
def cb' (c : List (Nat × Nat)) (i : Nat) : Nat := (c.getD i (0, 0)).2
def ways (k : Nat) (c : List (Nat × Nat)) : List (List Nat) := c.map fun p => ow k p.1 p.2
def tv (T : List (List (Option Bool))) (t p : Nat) : Option Bool := (T.getD t []).getD p none
@[simp] theorem p_0 (p : Nat × Nat) : ixD (pN p) (.int 0) = .ok (.int (p.1 : Int)) := rfl
@[simp] theorem p_1 (p : Nat × Nat) : ixD (pN p) (.int 1) = .ok (.int (p.2 : Int)) := rfl
@[simp] theorem p_imm (p : Nat × Nat) : imm (pN p) = true := rfl
theorem cN_imm (c : List (Nat × Nat)) : immL (c.map pN) = true := immL_all fun d hd => by
  obtain ⟨p, _, rfl⟩ := List.mem_map.mp hd
  rfl
theorem cN_len (c : List (Nat × Nat)) : blt1 .len (cN c) = .ok (.int (c.length : Int)) := by
  unfold cN; rw [q_lenL, List.length_map]
theorem cN_at {c : List (Nat × Nat)} {i : Nat} (h : i < c.length) : ixD (cN c) (.int (i : Int)) = .ok (pN (c.getD i (0, 0))) := by
  rw [getD_in _ h]
  exact q_ixN (by rw [List.getElem?_map, List.getElem?_eq_getElem h]; rfl)
theorem tN_at {T : List (List (Option Bool))} {i : Nat} (h : i < T.length) : ixD (tN T) (.int (i : Int)) = .ok (rN (T.getD i [])) := by
  rw [getD_in _ h]
  exact q_ixN (by rw [List.getElem?_map, List.getElem?_eq_getElem h]; rfl)
theorem rN_at {r : List (Option Bool)} {i : Nat} (h : i < r.length) : ixD (rN r) (.int (i : Int)) = .ok (oN (r.getD i none)) := by
  rw [getD_in _ h]
  exact q_ixN (by rw [List.getElem?_map, List.getElem?_eq_getElem h]; rfl)
theorem ow_len (k a b : Nat) : (ow k a b).length = k := by unfold ow; rw [List.length_map, List.length_range]
theorem ow_at {k a b t : Nat} (h : t < k) : (ow k a b).getD t 0 = ol k a b (t + 1) := by
  rw [getD_in _ (by rw [ow_len]; exact h)]
  unfold ow
  rw [List.getElem_map, List.getElem_range]
theorem ways_len (k : Nat) (c : List (Nat × Nat)) : (ways k c).length = c.length := by unfold ways; rw [List.length_map]
theorem ways_at {k : Nat} {c : List (Nat × Nat)} {i : Nat} (h : i < c.length) : (ways k c).getD i [] = ow k (ca c i) (cb' c i) := by
  rw [getD_in _ (by rw [ways_len]; exact h)]
  unfold ways ca cb'
  rw [List.getElem_map, getD_in _ h]
theorem ways_lk (k : Nat) (c : List (Nat × Nat)) : Lk k (ways k c) := fun i hi => by
  rw [ways_len] at hi
  rw [ways_at hi, ow_len]
/-- calls: their ends are lanes, and there are few -/
structure Cls (k : Nat) (c : List (Nat × Nat)) : Prop where
  a : ∀ i, i < c.length → ca c i < 2 ^ k
  b : ∀ i, i < c.length → cb' c i < 2 ^ k
  d : ∀ i j, i < j → j < c.length → ca c i ≠ ca c j
  l : c.length ≤ 32
theorem ap_ol {k : Nat} {c : List (Nat × Nat)} (h : AllAp (ways k c)) {i j t : Nat} (hij : i < j) (hj : j < c.length) (ht : t < k) : ol k (ca c i) (cb' c i) (t + 1) ≠ ol k (ca c j) (cb' c j) (t + 1) := by
  have := h i j hij (by rw [ways_len]; exact hj) t (by rw [ways_at (by omega), ow_len]; exact ht)
  rw [ways_at (by omega), ways_at hj, ow_at ht, ow_at ht] at this
  exact this
def stg (k a b t : Nat) : Bool := !decide (sh k (ol k a b t) % 2 = ol k a b (t + 1) % 2)
/-- calls at one switch ask for the same -/
theorem same_st {k : Nat} {c : List (Nat × Nat)} (h1 : 1 ≤ k) (hk : k ≤ 5) (C : Cls k c) (h : AllAp (ways k c)) {i j t : Nat} (hij : i < j) (hj : j < c.length) (ht : t < k)
    (e : ol k (ca c i) (cb' c i) (t + 1) / 2 = ol k (ca c j) (cb' c j) (t + 1) / 2) : stg k (ca c i) (cb' c i) t = stg k (ca c j) (cb' c j) t := by
  have n1 := ap_ol h hij hj ht
  have ai := C.a i (by omega)
  have bi := C.b i (by omega)
  have aj := C.a j hj
  have bj := C.b j hj
  have n0 : ol k (ca c i) (cb' c i) t ≠ ol k (ca c j) (cb' c j) t := by
    cases t with
    | zero =>
      rw [(a_ol0 k (by omega) _ ai _ bi).1, (a_ol0 k (by omega) _ aj _ bj).1]
      exact C.d i j hij hj
    | succ t => exact ap_ol h hij hj (by omega)
  have s1 := a_sh0 k (by omega) t ht _ ai _ bi
  have s2 := a_sh0 k (by omega) t ht _ aj _ bj
  have li := (a_lt0 k (by omega) t (by omega) _ ai _ bi).1
  have lj := (a_lt0 k (by omega) t (by omega) _ aj _ bj).1
  have q1 := (a_shb0 k (by omega) h1 _ li).2.2
  have q2 := (a_shb0 k (by omega) h1 _ lj).2.2
  have n2 : sh k (ol k (ca c i) (cb' c i) t) ≠ sh k (ol k (ca c j) (cb' c j) t) := fun z => by
    rw [z] at q1
    exact n0 (q1.symm.trans q2)
  unfold stg
  generalize sh k (ol k (ca c i) (cb' c i) t) = x at *
  generalize sh k (ol k (ca c j) (cb' c j) t) = y at *
  generalize ol k (ca c i) (cb' c i) (t + 1) = u at *
  generalize ol k (ca c j) (cb' c j) (t + 1) = v at *
  congr 1
  rw [decide_eq_decide]
  omega
def lbf (k a b : Nat) : List Nat := (List.range k).map fun s => sh k (ol k a b s)
theorem lbf_at {k a b t : Nat} (h : t < k) : (lbf k a b).getD t 0 = sh k (ol k a b t) := by
  rw [getD_in _ (by unfold lbf; rw [List.length_map, List.length_range]; exact h)]
  unfold lbf
  rw [List.getElem_map, List.getElem_range]
theorem lbf_len (k a b : Nat) : (lbf k a b).length = k := by unfold lbf; rw [List.length_map, List.length_range]
theorem f_before {k : Nat} {p : Nat × Nat} (h1 : 1 ≤ k) (hk : k ≤ 5) : Flanes_before [.int (k : Int), pN p] = .ok (iN (lbf k p.1 p.2)) := by
  refine F_rt (s := Tlanes_before) (δ := [some (.int (k : Int)), some (pN p), none]) rfl rfl ?_
  unfold Tlanes_before
  refine sqx ?_
  rw [q_sret, ev_comp (List.range k) (fun (i : Nat) => PyData.int (i : Int)) (fun s => .int (sh k (ol k p.1 p.2 s) : Int)) (ev_rng1 rfl (by omega)) fun i hi => ?_]
  · unfold iN lbf
    rw [List.map_map]
    rfl
  · have hi := List.mem_range.mp hi
    have e := f_lane (a := p.1) (b := p.2) hk (s := i) (by omega)
    have e2 := f_shuffled (l := ol k p.1 p.2 i) h1 hk
    refine ⟨_, rfl, ?_⟩
    simp only [q_w1, q_w0, List.map_cons, List.map_nil, List.set_cons_succ, List.set_cons_zero, q_sasg, q_spar, q_sret, q_sretS, q_sife, q_snil, q_tn, q_tr, q_lst, q_tup, q_call, q_cons, q_nil, q_cI, q_ari, q_ix, q_sl, q_s0, q_s1, q_ki, q_kn, q_kb, q_ks, q_neg, q_negD, q_ci, q_cb, q_cs, q_cn, if_true, q_ok, q_ii, q_or, q_and, q_one, q_not, q_cmp, q_eq, q_ne, q_lt, q_le, q_gt, q_ge, q_is, q_isnot, q_isnN, q_isnI, q_isnL, q_isnT, q_notR, q_boolD, Bool.not_true, Bool.not_false, List.length_cons, List.length_nil, sz (show 0 ≤ 1000000 by decide), sz (show 0 + 1 ≤ 1000000 by decide), sz (show 0 + 1 + 1 ≤ 1000000 by decide), q_lok, q_t1, q_t2, q_t3, q_t4, q_blt, q_blt1, q_blt2, q_eqi, p_0, p_1, e, e2]
theorem flat_none (n : Nat) : (List.replicate n [PyData.none]).flatten = (List.replicate n (none : Option Bool)).map oN := by
  induction n with
  | zero => rfl
  | succ n ih => rw [List.replicate_succ, List.flatten_cons, ih, List.replicate_succ, List.map_cons]; rfl
theorem rep_none (n : Nat) (h : n ≤ 1000000) : repD (.list [.none]) (.int (n : Int)) = .ok (rN (List.replicate n none)) := by
  have h2 := sz h
  have c : -(2 ^ 63) ≤ (n : Int) ∧ (n : Int) < 2 ^ 63 ∧ ([PyData.none] : List PyData).length * (n : Int).toNat ≤ sizeLine := by
    refine ⟨by omega, by omega, ?_⟩
    rw [Int.toNat_natCast, List.length_singleton, Nat.one_mul]
    exact h2
  have e := flat_none n
  simp only [repD]
  rw [if_pos c, Int.toNat_natCast, e]
  rfl
theorem ixNn {n j : Nat} (h : j < n) : ixN n (j : Int) = some j := by
  unfold ixN
  rw [if_pos (by omega), if_pos (by omega), Int.toNat_natCast]
theorem rN_imm (r : List (Option Bool)) : immL (r.map oN) = true := immL_all fun d hd => by
  obtain ⟨p, _, rfl⟩ := List.mem_map.mp hd
  cases p <;> rfl
theorem rN_cL {e : E} {δ : Sl} {r : List (Option Bool)} (h : ev e δ = .ok (rN r)) : ev (.cL e) δ = .ok (rN r) := by
  rw [q_cL, h, q_ok]
  unfold rN
  show (if _ then _ else _) = _
  rw [if_pos (rN_imm r)]
theorem cN_cL {e : E} {δ : Sl} {r : List (Nat × Nat)} (h : ev e δ = .ok (cN r)) : ev (.cL e) δ = .ok (cN r) := by
  rw [q_cL, h, q_ok]
  unfold cN
  show (if _ then _ else _) = _
  rw [if_pos (cN_imm r)]
theorem q_setT {T : List (List (Option Bool))} {t p : Nat} {v : Bool} {i e : E} {δ : Sl} (h1 : slotD δ 2 = .ok (tN T)) (h2 : slotD δ 6 = .ok (.int (t : Int))) (ht : t < T.length) (h3 : ev i δ = .ok (.int (p : Int))) (hp : p < (T.getD t []).length) (h4 : ev e δ = .ok (.bool v)) :
    sev (.setI false (.ix (.sl 2) (.sl 6)) i e) δ = .nx (δ.set 2 (some (tN (T.set t ((T.getD t []).set p (some v)))))) := by
  show (lft δ (ev e δ) fun y => lft δ (nox (pthD (.ix (.sl 2) (.sl 6)) δ)) fun ks => lft δ (nox (ev i δ)) fun k => lft δ (slotD δ 2) fun d => lft δ (nox (modG false (setD k y) ks d)) fun d' => .nx (δ.set 2 (some d'))) = _
  have e1 : pthD (.ix (.sl 2) (.sl 6)) δ = .ok [.int (t : Int)] := by
    show (R.ok ([] : List D) >>= fun ks => slotD δ 6 >>= fun k => R.ok (ks ++ [k])) = _
    rw [q_ok, h2, q_ok]
    rfl
  rw [h4, q_lok, e1, q_nox, q_lok, h3, q_nox, q_lok, h1, q_lok]
  have e2 : stepD (T.map rN) (.int (t : Int)) = some t := by
    show ixN (T.map rN).length (t : Int) = some t
    exact ixNn (by rw [List.length_map]; exact ht)
  have e3 : stepD ((T.getD t []).map oN) (.int (p : Int)) = some p := by
    show ixN ((T.getD t []).map oN).length (p : Int) = some p
    exact ixNn (by rw [List.length_map]; exact hp)
  have e4 : modG false (setD (.int (p : Int)) (.bool v)) [.int (t : Int)] (tN T) = .ok (tN (T.set t ((T.getD t []).set p (some v)))) := by
    show (match stepD (T.map rN) (.int (t : Int)) with
      | some j => match (T.map rN)[j]? with
        | some x => modG false (setD (.int (p : Int)) (.bool v)) [] x >>= fun y => R.ok (PyData.list ((T.map rN).set j y))
        | none => .no
      | none => .no) = _
    rw [e2]
    have e5 : (T.map rN)[t]? = some (rN (T.getD t [])) := by
      rw [List.getElem?_map, List.getElem?_eq_getElem ht, getD_in _ ht]; rfl
    simp only [e5]
    show ((setD (.int (p : Int)) (.bool v) ((T.getD t []).map oN) >>= fun ys => R.ok (PyData.list ys)) >>= fun y => R.ok (PyData.list ((T.map rN).set t y))) = _
    unfold setD
    rw [e3]
    show R.ok (PyData.list ((T.map rN).set t (.list (((T.getD t []).map oN).set p (.bool v))))) = _
    have e6 : ((T.getD t []).map oN).set p (.bool v) = ((T.getD t []).set p (some v)).map oN := by rw [List.map_set]; rfl
    rw [e6]
    show R.ok (PyData.list ((T.map rN).set t (rN ((T.getD t []).set p (some v))))) = R.ok (PyData.list ((T.set t ((T.getD t []).set p (some v))).map rN))
    rw [List.map_set]
  rw [e4, q_nox, q_lok]
theorem tv_set {T : List (List (Option Bool))} {t p : Nat} {v : Option Bool} (ht : t < T.length) (hp : p < (T.getD t []).length) (t' p' : Nat) : tv (T.set t ((T.getD t []).set p v)) t' p' = if t' = t ∧ p' = p then v else tv T t' p' := by
  unfold tv
  by_cases e : t' = t
  · subst e
    have e1 : (T.set t' ((T.getD t' []).set p v)).getD t' [] = (T.getD t' []).set p v := by
      rw [List.getD_eq_getElem?_getD, List.getElem?_set_self ht]; rfl
    rw [e1]
    by_cases e2 : p' = p
    · subst e2
      rw [if_pos ⟨rfl, rfl⟩, List.getD_eq_getElem?_getD, List.getElem?_set_self hp]; rfl
    · rw [if_neg (fun z => e2 z.2), List.getD_eq_getElem?_getD, List.getElem?_set_ne (Ne.symm e2), ← List.getD_eq_getElem?_getD]
  · rw [if_neg (fun z => e z.1)]
    have e1 : (T.set t ((T.getD t []).set p v)).getD t' [] = T.getD t' [] := by
      rw [List.getD_eq_getElem?_getD, List.getElem?_set_ne (Ne.symm e), ← List.getD_eq_getElem?_getD]
    rw [e1]
structure Tb (k : Nat) (T : List (List (Option Bool))) : Prop where
  n : T.length = k
  m : ∀ t, t < k → (T.getD t []).length = 2 ^ (k - 1)
theorem Tb.set {k : Nat} {T : List (List (Option Bool))} (h : Tb k T) {t p : Nat} {v : Option Bool} (ht : t < k) : Tb k (T.set t ((T.getD t []).set p v)) := by
  refine ⟨by rw [List.length_set]; exact h.n, fun t' ht' => ?_⟩
  by_cases e : t' = t
  · subst e
    have e1 : (T.set t' ((T.getD t' []).set p v)).getD t' [] = (T.getD t' []).set p v := by
      rw [List.getD_eq_getElem?_getD, List.getElem?_set_self (by rw [h.n]; exact ht)]; rfl
    rw [e1, List.length_set]
    exact h.m t' ht'
  · have e1 : (T.set t ((T.getD t []).set p v)).getD t' [] = T.getD t' [] := by
      rw [List.getD_eq_getElem?_getD, List.getElem?_set_ne (Ne.symm e), ← List.getD_eq_getElem?_getD]
    rw [e1]
    exact h.m t' ht'
def Told (k : Nat) (c : List (Nat × Nat)) (T : List (List (Option Bool))) (i : Nat) : Prop := ∀ j, j < i → ∀ t, t < k → tv T t (ol k (ca c j) (cb' c j) (t + 1) / 2) = some (stg k (ca c j) (cb' c j) t)
theorem f_table {k : Nat} {c : List (Nat × Nat)} (h1 : 1 ≤ k) (hk : k ≤ 5) (C : Cls k c) (h : AllAp (ways k c)) : ∃ T, Ftable_of [.int (k : Int), cN c] = .ok (tN T) ∧ Tb k T ∧ Told k c T c.length := by
  have p1 := p5 (k := k - 1) (by omega)
  have p2 : 2 ^ k = 2 * 2 ^ (k - 1) := by
    obtain ⟨m, rfl⟩ : ∃ m, k = m + 1 := ⟨k - 1, by omega⟩
    rw [Nat.add_sub_cancel, Nat.pow_succ]; omega
  have e1 := n_sub1 h1
  have e2 := n_shl (k := k - 1) (by omega)
  have e3 := rep_none (2 ^ (k - 1)) (by omega)
  let T0 : List (List (Option Bool)) := (List.range k).map fun _ => List.replicate (2 ^ (k - 1)) none
  have t0 : Tb k T0 := by
    refine ⟨by show ((List.range k).map _).length = k; rw [List.length_map, List.length_range], fun t ht => ?_⟩
    have hl : t < T0.length := by show t < ((List.range k).map _).length; rw [List.length_map, List.length_range]; exact ht
    rw [getD_in _ hl]
    simp [T0]
  have main : ∃ T, sev Ttable_of [some (.int (k : Int)), some (cN c), none, none, none, none, none] = .rt (tN T) ∧ Tb k T ∧ Told k c T c.length := by
    unfold Ttable_of
    have s1 : sev (.asg (.one 2) (.comp [("stage", 6)] (.one 6) (.rng1 (.sl 0)) .nop (.cL (.rep (.lst (.cons (.k (.none)) .nil)) (.ari .LShift (.k (.int 1)) (.ari .Sub (.sl 0) (.k (.int 1)))))))) [some (.int (k : Int)), some (cN c), none, none, none, none, none] = .nx [some (.int (k : Int)), some (cN c), some (tN T0), none, none, none, none] := by
      rw [q_sasg, ev_comp (List.range k) (fun (i : Nat) => PyData.int (i : Int)) (fun _ => rN (List.replicate (2 ^ (k - 1)) none)) (ev_rng1 rfl (by omega)) fun i hi => ?_]
      · show Out.nx _ = _
        unfold tN
        show Out.nx [_, _, some (.list ((List.range k).map fun _ => rN (List.replicate (2 ^ (k - 1)) none))), _, _, _, _] = Out.nx [_, _, some (.list (((List.range k).map fun _ => List.replicate (2 ^ (k - 1)) none).map rN)), _, _, _, _]
        rw [List.map_map]
        rfl
      · exact ⟨_, rfl, rN_cL (by
          rw [q_rep]
          simp only [q_w1, q_w0, List.map_cons, List.map_nil, List.set_cons_succ, List.set_cons_zero, q_sasg, q_spar, q_sret, q_sretS, q_sife, q_snil, q_tn, q_tr, q_lst, q_tup, q_call, q_cons, q_nil, q_cI, q_ari, q_ix, q_sl, q_s0, q_s1, q_ki, q_kn, q_kb, q_ks, q_neg, q_negD, q_ci, q_cb, q_cs, q_cn, if_true, q_ok, q_ii, q_or, q_and, q_one, q_not, q_cmp, q_eq, q_ne, q_lt, q_le, q_gt, q_ge, q_is, q_isnot, q_isnN, q_isnI, q_isnL, q_isnT, q_notR, q_boolD, Bool.not_true, Bool.not_false, List.length_cons, List.length_nil, sz (show 0 ≤ 1000000 by decide), sz (show 0 + 1 ≤ 1000000 by decide), sz (show 0 + 1 + 1 ≤ 1000000 by decide), q_lok, q_t1, q_t2, q_t3, q_t4, q_blt, q_blt1, q_blt2, q_eqi, e1, e2, e3])⟩
    obtain ⟨δ', e4, T, x3, x4, x5, x6, rfl, hT, hTo⟩ := s_for (tg := .one 3) (it := .sl 1) (im := true) (τ := [some (.S, true), some (.S, true), some (.F, false), some (.F, false), some (.F, false), some (.F, false), some (.F, false)]) (s := (.seq (.par 4 5 (.cons (.call "lanes_before" Flanes_before .F (.cons (.cI (.sl 0)) (.cons (.cI (.sl 3)) .nil))) (.cons (.call "omega_way" Fomega_way .F (.cons (.cI (.sl 0)) (.cons (.cI (.ix (.sl 3) (.k (.int 0)))) (.cons (.cI (.ix (.sl 3) (.k (.int 1)))) .nil)))) .nil)))
(.seq (.forE (.one 6) (.rng1 (.sl 0)) true [some (.S, true), some (.S, true), some (.F, false), some (.F, false), some (.F, false), some (.F, false), some (.F, false)]
(.seq (.setI false (.ix (.sl 2) (.sl 6)) (.ari .FloorDiv (.ix (.sl 5) (.sl 6)) (.k (.int 2))) (.cmp .NotEq (.ari .Mod (.ix (.sl 4) (.sl 6)) (.k (.int 2))) (.ari .Mod (.ix (.sl 5) (.sl 6)) (.k (.int 2)))))
.nil))
.nil))) (δ := [some (.int (k : Int)), some (cN c), some (tN T0), none, none, none, none]) (xs := c.map pN) rfl (by rw [cN_imm]; rfl)
      (fun i δ => ∃ T x3 x4 x5 x6, δ = [some (.int (k : Int)), some (cN c), some (tN T), x3, x4, x5, x6] ∧ Tb k T ∧ Told k c T i) ⟨T0, _, _, _, _, rfl, t0, fun j hj => by omega⟩ (fun i δ hi hI => by
        obtain ⟨T, x3, x4, x5, x6, rfl, hT, hTo⟩ := hI
        have hi : i < c.length := by simpa using hi
        rw [List.getElem_map]
        have eci : c[i] = (ca c i, cb' c i) := by unfold ca cb'; rw [getD_in _ hi]
        rw [eci]
        have ai := C.a i hi
        have bi := C.b i hi
        have same : ∀ j, j < i → ∀ t, t < k → ol k (ca c j) (cb' c j) (t + 1) / 2 = ol k (ca c i) (cb' c i) (t + 1) / 2 → stg k (ca c j) (cb' c j) t = stg k (ca c i) (cb' c i) t := fun j hj t ht e => same_st h1 hk C h hj hi ht e
        generalize ha : ca c i = a at *
        generalize hb : cb' c i = b at *
        have eb := f_before (p := (a, b)) h1 hk
        have ew := f_way (a := a) (b := b) hk
        obtain ⟨δ2, e5, T2, x6', rfl, hT2, hTo2, hTn⟩ := s_range (i := 6) (a := .sl 0) (τ := [some (.S, true), some (.S, true), some (.F, false), some (.F, false), some (.F, false), some (.F, false), some (.F, false)]) (s := (.seq (.setI false (.ix (.sl 2) (.sl 6)) (.ari .FloorDiv (.ix (.sl 5) (.sl 6)) (.k (.int 2))) (.cmp .NotEq (.ari .Mod (.ix (.sl 4) (.sl 6)) (.k (.int 2))) (.ari .Mod (.ix (.sl 5) (.sl 6)) (.k (.int 2)))))
.nil))
          (δ := [some (.int (k : Int)), some (cN c), some (tN T), some (pN (a, b)), some (iN (lbf k a b)), some (iN (ow k a b)), x6]) (n := (k : Int)) rfl (by omega) (by omega)
          (fun s δ => ∃ T2 x6, δ = [some (.int (k : Int)), some (cN c), some (tN T2), some (pN (a, b)), some (iN (lbf k a b)), some (iN (ow k a b)), x6] ∧ Tb k T2 ∧ Told k c T2 i ∧ ∀ t, t < s → tv T2 t (ol k a b (t + 1) / 2) = some (stg k a b t)) ⟨T, _, rfl, hT, hTo, fun t ht => by omega⟩ (fun t δ ht hI => by
            obtain ⟨T2, x6, rfl, hT2, hTo2, hTn⟩ := hI
            have ht : t < k := by omega
            have a1 := iN_at (l := lbf k a b) (i := t) (by rw [lbf_len]; exact ht)
            have a2 := iN_at (l := ow k a b) (i := t) (by rw [ow_len]; exact ht)
            rw [lbf_at ht] at a1
            rw [ow_at ht] at a2
            have b1 := n_mod2 (sh k (ol k a b t))
            have b2 := n_mod2 (ol k a b (t + 1))
            have b3 := n_div2 (ol k a b (t + 1))
            have lt := (a_lt0 k (by omega) (t + 1) (by omega) a ai b bi).1
            have hp : ol k a b (t + 1) / 2 < (T2.getD t []).length := by rw [hT2.m t ht]; omega
            have htl : t < T2.length := by rw [hT2.n]; exact ht
            refine ⟨_, sq (q_setT (T := T2) (t := t) (p := ol k a b (t + 1) / 2) (v := stg k a b t) rfl rfl htl ?_ hp ?_) rfl, _, _, rfl, hT2.set ht, fun j hj t' ht' => ?_, fun t' ht' => ?_⟩
            · simp only [List.set_cons_succ, List.set_cons_zero, List.set_cons_succ, List.set_cons_zero, q_sasg, q_spar, q_sret, q_sretS, q_sife, q_snil, q_tn, q_tr, q_lst, q_tup, q_call, q_cons, q_nil, q_cI, q_ari, q_ix, q_sl, q_s0, q_s1, q_ki, q_kn, q_kb, q_ks, q_neg, q_negD, q_ci, q_cb, q_cs, q_cn, if_true, q_ok, q_ii, q_or, q_and, q_one, q_not, q_cmp, q_eq, q_ne, q_lt, q_le, q_gt, q_ge, q_is, q_isnot, q_isnN, q_isnI, q_isnL, q_isnT, q_notR, q_boolD, Bool.not_true, Bool.not_false, List.length_cons, List.length_nil, sz (show 0 ≤ 1000000 by decide), sz (show 0 + 1 ≤ 1000000 by decide), sz (show 0 + 1 + 1 ≤ 1000000 by decide), q_lok, q_t1, q_t2, q_t3, q_t4, q_blt, q_blt1, q_blt2, q_eqi, a2, b3]
            · simp only [List.set_cons_succ, List.set_cons_zero, List.set_cons_succ, List.set_cons_zero, q_sasg, q_spar, q_sret, q_sretS, q_sife, q_snil, q_tn, q_tr, q_lst, q_tup, q_call, q_cons, q_nil, q_cI, q_ari, q_ix, q_sl, q_s0, q_s1, q_ki, q_kn, q_kb, q_ks, q_neg, q_negD, q_ci, q_cb, q_cs, q_cn, if_true, q_ok, q_ii, q_or, q_and, q_one, q_not, q_cmp, q_eq, q_ne, q_lt, q_le, q_gt, q_ge, q_is, q_isnot, q_isnN, q_isnI, q_isnL, q_isnT, q_notR, q_boolD, Bool.not_true, Bool.not_false, List.length_cons, List.length_nil, sz (show 0 ≤ 1000000 by decide), sz (show 0 + 1 ≤ 1000000 by decide), sz (show 0 + 1 + 1 ≤ 1000000 by decide), q_lok, q_t1, q_t2, q_t3, q_t4, q_blt, q_blt1, q_blt2, q_eqi, a1, a2, b1, b2, eq_cast]
              rfl
            · rw [tv_set htl hp]
              by_cases c1 : t' = t ∧ ol k (ca c j) (cb' c j) (t' + 1) / 2 = ol k a b (t + 1) / 2
              · rw [if_pos c1]
                obtain ⟨rfl, c2⟩ := c1
                rw [same j hj t' ht' c2]
              · rw [if_neg c1]
                exact hTo2 j hj t' ht'
            · rw [tv_set htl hp]
              by_cases c1 : t' = t ∧ ol k a b (t' + 1) / 2 = ol k a b (t + 1) / 2
              · rw [if_pos c1]
                obtain ⟨rfl, _⟩ := c1
                rfl
              · rw [if_neg c1]
                refine hTn t' ?_
                by_cases c2 : t' = t
                · subst c2; exact absurd ⟨rfl, rfl⟩ c1
                · omega)
        refine ⟨_, _, rfl, sq (δ1 := [some (.int (k : Int)), some (cN c), some (tN T), some (pN (a, b)), some (iN (lbf k a b)), some (iN (ow k a b)), x6]) ?_ (sq e5 rfl), T2, _, _, _, _, rfl, hT2, fun j hj t ht => ?_⟩
        · simp only [List.set_cons_succ, List.set_cons_zero, q_sasg, q_spar, q_sret, q_sretS, q_sife, q_snil, q_tn, q_tr, q_lst, q_tup, q_call, q_cons, q_nil, q_cI, q_ari, q_ix, q_sl, q_s0, q_s1, q_ki, q_kn, q_kb, q_ks, q_neg, q_negD, q_ci, q_cb, q_cs, q_cn, if_true, q_ok, q_ii, q_or, q_and, q_one, q_not, q_cmp, q_eq, q_ne, q_lt, q_le, q_gt, q_ge, q_is, q_isnot, q_isnN, q_isnI, q_isnL, q_isnT, q_notR, q_boolD, Bool.not_true, Bool.not_false, List.length_cons, List.length_nil, sz (show 0 ≤ 1000000 by decide), sz (show 0 + 1 ≤ 1000000 by decide), sz (show 0 + 1 + 1 ≤ 1000000 by decide), q_lok, q_t1, q_t2, q_t3, q_t4, q_blt, q_blt1, q_blt2, q_eqi, p_imm, p_0, p_1, eb, ew]
        · by_cases ej : j = i
          · subst ej
            rw [ha, hb]
            exact hTn t (by simpa using ht)
          · exact hTo2 j (by omega) t ht)
    rw [List.length_map] at hTo
    exact ⟨T, sq s1 (sq e4 (sqx rfl)), hT, hTo⟩
  obtain ⟨T, e, h1, h2⟩ := main
  exact ⟨T, F_rt (s := Ttable_of) (δ := [some (.int (k : Int)), some (cN c), none, none, none, none, none]) rfl rfl e, h1, h2⟩
end VS
set_option Elab.async false
set_option linter.all false
set_option maxRecDepth 100000
namespace VS
open PySem PySem.Spec L2
open PyProof.Rows hiding St
theorem f_walked {k a b : Nat} (h1 : 1 ≤ k) (hk : k ≤ 5) (ha : a < 2 ^ k) (hb : b < 2 ^ k) {T : List (List (Option Bool))} (hT : Tb k T) (h : ∀ t, t < k → tv T t (ol k a b (t + 1) / 2) = some (stg k a b t)) :
    F_law_walked [.int (k : Int), tN T, .int (a : Int)] = .ok (.int (b : Int)) := by
  have p1 := p5 hk
  have p2 : 2 ^ k = 2 * 2 ^ (k - 1) := by
    obtain ⟨m, rfl⟩ : ∃ m, k = m + 1 := ⟨k - 1, by omega⟩
    rw [Nat.add_sub_cancel, Nat.pow_succ]; omega
  have e0 := n_shl (k := k) (by omega)
  have en := a_ol0 k (by omega) a ha b hb
  refine F_rt (s := T_law_walked) (δ := [some (.int (k : Int)), some (tN T), some (.int (a : Int)), none, none, none]) rfl rfl ?_
  unfold T_law_walked
  refine sq (δ1 := [some (.int (k : Int)), some (tN T), some (.int (a : Int)), some (.int ((2 ^ k : Nat) : Int)), none, none]) (by simp only [List.set_cons_succ, List.set_cons_zero, q_sasg, q_spar, q_sret, q_sretS, q_sife, q_snil, q_tn, q_tr, q_lst, q_tup, q_call, q_cons, q_nil, q_cI, q_ari, q_ix, q_sl, q_s0, q_s1, q_ki, q_kn, q_kb, q_ks, q_neg, q_negD, q_ci, q_cb, q_cs, q_cn, if_true, q_ok, q_ii, q_or, q_and, q_one, q_not, q_cmp, q_eq, q_ne, q_lt, q_le, q_gt, q_ge, q_is, q_isnot, q_isnN, q_isnI, q_isnL, q_isnT, q_notR, q_boolD, Bool.not_true, Bool.not_false, List.length_cons, List.length_nil, sz (show 0 ≤ 1000000 by decide), sz (show 0 + 1 ≤ 1000000 by decide), sz (show 0 + 1 + 1 ≤ 1000000 by decide), q_lok, q_t1, q_t2, q_t3, q_t4, q_blt, q_blt1, q_blt2, q_eqi, e0]) ?_
  refine sq (δ1 := [some (.int (k : Int)), some (tN T), some (.int (a : Int)), some (.int ((2 ^ k : Nat) : Int)), some (.int (ol k a b 0 : Int)), none]) (by rw [en.1]; simp only [List.set_cons_succ, List.set_cons_zero, q_sasg, q_spar, q_sret, q_sretS, q_sife, q_snil, q_tn, q_tr, q_lst, q_tup, q_call, q_cons, q_nil, q_cI, q_ari, q_ix, q_sl, q_s0, q_s1, q_ki, q_kn, q_kb, q_ks, q_neg, q_negD, q_ci, q_cb, q_cs, q_cn, if_true, q_ok, q_ii, q_or, q_and, q_one, q_not, q_cmp, q_eq, q_ne, q_lt, q_le, q_gt, q_ge, q_is, q_isnot, q_isnN, q_isnI, q_isnL, q_isnT, q_notR, q_boolD, Bool.not_true, Bool.not_false, List.length_cons, List.length_nil, sz (show 0 ≤ 1000000 by decide), sz (show 0 + 1 ≤ 1000000 by decide), sz (show 0 + 1 + 1 ≤ 1000000 by decide), q_lok, q_t1, q_t2, q_t3, q_t4, q_blt, q_blt1, q_blt2, q_eqi]) ?_
  refine sq_rng k rfl (by omega) (by omega) (fun t δ => ∃ x, δ = [some (.int (k : Int)), some (tN T), some (.int (a : Int)), some (.int ((2 ^ k : Nat) : Int)), some (.int (ol k a b t : Int)), x]) ⟨_, rfl⟩ (fun t δ ht hI => ?_) (fun δ' hI => ?_)
  · obtain ⟨x, rfl⟩ := hI
    have ht : t < k := by omega
    have l1 := (a_lt0 k (by omega) t (by omega) a ha b hb).1
    have l2 := (a_lt0 k (by omega) (t + 1) (by omega) a ha b hb).1
    have hs := a_sh0 k (by omega) t ht a ha b hb
    have hb2 := a_shb0 k (by omega) h1 _ l1
    have hv := h t ht
    rw [← hs] at hv
    unfold stg at hv
    generalize hx : ol k a b t = l at *
    generalize hy : ol k a b (t + 1) = m at *
    generalize hz : sh k l = u at *
    have e1 := n_2mul l
    have e2 := n_div (2 * l) p1.1 (l64 (by omega))
    have e3 := n_add (2 * l) (2 * l / 2 ^ k)
    have e4 := n_mod (2 * l + 2 * l / 2 ^ k) p1.1
    rw [hb2.2.1] at e4
    have e5 := n_div2 u
    have e6 := tN_at (T := T) (i := t) (by rw [hT.n]; exact ht)
    have e7 := rN_at (r := T.getD t []) (i := u / 2) (by rw [hT.m t ht]; omega)
    have hv : (T.getD t []).getD (u / 2) none = some (!decide (u % 2 = m % 2)) := hv
    rw [hv] at e7
    have e8 := n_add1 u
    have e9 := n_mod2 u
    have e10 := n_2mul (u % 2)
    have e11 := n_sub (a := u + 1) (b := 2 * (u % 2)) (by omega)
    have nb : ∀ b : Bool, isNonD (oN (some b)) = false := fun b => rfl
    have ob : ∀ b : Bool, oN (some b) = .bool b := fun b => rfl
    refine ⟨[some (.int (k : Int)), some (tN T), some (.int (a : Int)), some (.int ((2 ^ k : Nat) : Int)), some (.int (m : Int)), some (.int (t : Int))], sq (δ1 := [some (.int (k : Int)), some (tN T), some (.int (a : Int)), some (.int ((2 ^ k : Nat) : Int)), some (.int (u : Int)), some (.int (t : Int))]) (by simp only [List.set_cons_succ, List.set_cons_zero, q_sasg, q_spar, q_sret, q_sretS, q_sife, q_snil, q_tn, q_tr, q_lst, q_tup, q_call, q_cons, q_nil, q_cI, q_ari, q_ix, q_sl, q_s0, q_s1, q_ki, q_kn, q_kb, q_ks, q_neg, q_negD, q_ci, q_cb, q_cs, q_cn, if_true, q_ok, q_ii, q_or, q_and, q_one, q_not, q_cmp, q_eq, q_ne, q_lt, q_le, q_gt, q_ge, q_is, q_isnot, q_isnN, q_isnI, q_isnL, q_isnT, q_notR, q_boolD, Bool.not_true, Bool.not_false, List.length_cons, List.length_nil, sz (show 0 ≤ 1000000 by decide), sz (show 0 + 1 ≤ 1000000 by decide), sz (show 0 + 1 + 1 ≤ 1000000 by decide), q_lok, q_t1, q_t2, q_t3, q_t4, q_blt, q_blt1, q_blt2, q_eqi, e1, e2, e3, e4]) (sq (δ1 := [some (.int (k : Int)), some (tN T), some (.int (a : Int)), some (.int ((2 ^ k : Nat) : Int)), some (.int (u : Int)), some (.int (t : Int))]) (by simp only [List.set_cons_succ, List.set_cons_zero, q_sasg, q_spar, q_sret, q_sretS, q_sife, q_snil, q_tn, q_tr, q_lst, q_tup, q_call, q_cons, q_nil, q_cI, q_ari, q_ix, q_sl, q_s0, q_s1, q_ki, q_kn, q_kb, q_ks, q_neg, q_negD, q_ci, q_cb, q_cs, q_cn, if_true, q_ok, q_ii, q_or, q_and, q_one, q_not, q_cmp, q_eq, q_ne, q_lt, q_le, q_gt, q_ge, q_is, q_isnot, q_isnN, q_isnI, q_isnL, q_isnT, q_notR, q_boolD, Bool.not_true, Bool.not_false, List.length_cons, List.length_nil, sz (show 0 ≤ 1000000 by decide), sz (show 0 + 1 ≤ 1000000 by decide), sz (show 0 + 1 + 1 ≤ 1000000 by decide), q_lok, q_t1, q_t2, q_t3, q_t4, q_blt, q_blt1, q_blt2, q_eqi, e5, e6, e7, nb]) (sq ?_ rfl)), _, rfl⟩
    by_cases c : u % 2 = m % 2
    · have : u = m := by omega
      subst this
      rw [decide_eq_true c, Bool.not_true] at e7
      simp only [List.set_cons_succ, List.set_cons_zero, q_sasg, q_spar, q_sret, q_sretS, q_sife, q_snil, q_tn, q_tr, q_lst, q_tup, q_call, q_cons, q_nil, q_cI, q_ari, q_ix, q_sl, q_s0, q_s1, q_ki, q_kn, q_kb, q_ks, q_neg, q_negD, q_ci, q_cb, q_cs, q_cn, if_true, q_ok, q_ii, q_or, q_and, q_one, q_not, q_cmp, q_eq, q_ne, q_lt, q_le, q_gt, q_ge, q_is, q_isnot, q_isnN, q_isnI, q_isnL, q_isnT, q_notR, q_boolD, Bool.not_true, Bool.not_false, List.length_cons, List.length_nil, sz (show 0 ≤ 1000000 by decide), sz (show 0 + 1 ≤ 1000000 by decide), sz (show 0 + 1 + 1 ≤ 1000000 by decide), q_lok, q_t1, q_t2, q_t3, q_t4, q_blt, q_blt1, q_blt2, q_eqi, e5, e6, e7, ob]
    · rw [decide_eq_false c, Bool.not_false] at e7
      have : u + 1 - 2 * (u % 2) = m := by omega
      rw [this] at e11
      simp only [List.set_cons_succ, List.set_cons_zero, q_sasg, q_spar, q_sret, q_sretS, q_sife, q_snil, q_tn, q_tr, q_lst, q_tup, q_call, q_cons, q_nil, q_cI, q_ari, q_ix, q_sl, q_s0, q_s1, q_ki, q_kn, q_kb, q_ks, q_neg, q_negD, q_ci, q_cb, q_cs, q_cn, if_true, q_ok, q_ii, q_or, q_and, q_one, q_not, q_cmp, q_eq, q_ne, q_lt, q_le, q_gt, q_ge, q_is, q_isnot, q_isnN, q_isnI, q_isnL, q_isnT, q_notR, q_boolD, Bool.not_true, Bool.not_false, List.length_cons, List.length_nil, sz (show 0 ≤ 1000000 by decide), sz (show 0 + 1 ≤ 1000000 by decide), sz (show 0 + 1 + 1 ≤ 1000000 by decide), q_lok, q_t1, q_t2, q_t3, q_t4, q_blt, q_blt1, q_blt2, q_eqi, e5, e6, e7, ob]
      exact sq (δ1 := [some (.int (k : Int)), some (tN T), some (.int (a : Int)), some (.int ((2 ^ k : Nat) : Int)), some (.int (m : Int)), some (.int (t : Int))]) (by simp only [List.set_cons_succ, List.set_cons_zero, q_sasg, q_spar, q_sret, q_sretS, q_sife, q_snil, q_tn, q_tr, q_lst, q_tup, q_call, q_cons, q_nil, q_cI, q_ari, q_ix, q_sl, q_s0, q_s1, q_ki, q_kn, q_kb, q_ks, q_neg, q_negD, q_ci, q_cb, q_cs, q_cn, if_true, q_ok, q_ii, q_or, q_and, q_one, q_not, q_cmp, q_eq, q_ne, q_lt, q_le, q_gt, q_ge, q_is, q_isnot, q_isnN, q_isnI, q_isnL, q_isnT, q_notR, q_boolD, Bool.not_true, Bool.not_false, List.length_cons, List.length_nil, sz (show 0 ≤ 1000000 by decide), sz (show 0 + 1 ≤ 1000000 by decide), sz (show 0 + 1 + 1 ≤ 1000000 by decide), q_lok, q_t1, q_t2, q_t3, q_t4, q_blt, q_blt1, q_blt2, q_eqi, e8, e9, e10, e11]) rfl
  · obtain ⟨x, rfl⟩ := hI
    rw [show ((k : Int)).toNat = k by omega, en.2.1]
    exact sqx rfl
theorem ev_ways {k : Nat} {c : List (Nat × Nat)} (hk : k ≤ 5) {own : List (Str × Nat)} {i j : Nat} {it elt : E} {δ : Sl} (h1 : (ev it δ >>= iterD) = .ok (c.map pN))
    (h : ∀ p : Nat × Nat, p ∈ c → ∃ δ', setTg (.tup [i, j]) (pN p) (wipeD δ (own.map (·.2))) = .ok δ' ∧ ev elt δ' = .ok (iN (ow k p.1 p.2))) : ev (.comp own (.tup [i, j]) it .nop elt) δ = .ok (bN (ways k c)) := by
  rw [ev_comp c pN (fun p => iN (ow k p.1 p.2)) h1 h]
  unfold bN ways
  rw [List.map_map]
  rfl
theorem f_paper {k : Nat} {c : List (Nat × Nat)} (h1 : 1 ≤ k) (hk : k ≤ 5) (C : Cls k c) :
    (∃ T, Fomega_paper [.int (k : Int), cN c] = .ok (.tuple [.str "settings", tN T]) ∧ Tb k T ∧ Told k c T c.length ∧ AllAp (ways k c)) ∨
    (∃ a b t : Nat, a < b ∧ b < c.length ∧ t < k ∧ wv (ways k c) a t = wv (ways k c) b t ∧ Fomega_paper [.int (k : Int), cN c] = .ok (.tuple [.str "clash", .int (a : Int), .int (b : Int), .int ((t + 1 : Nat) : Int)])) := by
  have ec : ev (.comp [("inlet", 3), ("outlet", 4)] (.tup [3, 4]) (.sl 1) .nop (.call "omega_way" Fomega_way .F (.cons (.cI (.sl 0)) (.cons (.cI (.sl 3)) (.cons (.cI (.sl 4)) .nil))))) [some (.int (k : Int)), some (cN c), none, none, none] = .ok (bN (ways k c)) := by
    refine ev_ways hk rfl fun p hp => ⟨_, rfl, ?_⟩
    have e := f_way (a := p.1) (b := p.2) hk
    simp only [q_w1, q_w0, List.map_cons, List.map_nil, List.set_cons_succ, List.set_cons_zero, q_sasg, q_spar, q_sret, q_sretS, q_sife, q_snil, q_tn, q_tr, q_lst, q_tup, q_call, q_cons, q_nil, q_cI, q_ari, q_ix, q_sl, q_s0, q_s1, q_ki, q_kn, q_kb, q_ks, q_neg, q_negD, q_ci, q_cb, q_cs, q_cn, if_true, q_ok, q_ii, q_or, q_and, q_one, q_not, q_cmp, q_eq, q_ne, q_lt, q_le, q_gt, q_ge, q_is, q_isnot, q_isnN, q_isnI, q_isnL, q_isnT, q_notR, q_boolD, Bool.not_true, Bool.not_false, List.length_cons, List.length_nil, sz (show 0 ≤ 1000000 by decide), sz (show 0 + 1 ≤ 1000000 by decide), sz (show 0 + 1 + 1 ≤ 1000000 by decide), q_lok, q_t1, q_t2, q_t3, q_t4, q_blt, q_blt1, q_blt2, q_eqi, e]
  rcases f_clash (by omega) (ways_lk k c) (by rw [ways_len]; have := C.l; omega) with ⟨a, b, t, g1, g2, g3, g4, ef⟩ | ⟨hA, ef⟩
  · rw [ways_len] at g2
    refine .inr ⟨a, b, t, g1, g2, g3, g4, F_rt (s := Tomega_paper) (δ := [some (.int (k : Int)), some (cN c), none, none, none]) rfl rfl ?_⟩
    unfold Tomega_paper
    refine sq (δ1 := [some (.int (k : Int)), some (cN c), some (.tuple [.int (a : Int), .int (b : Int), .int (t : Int)]), none, none]) (by simp only [List.set_cons_succ, List.set_cons_zero, q_sasg, q_spar, q_sret, q_sretS, q_sife, q_snil, q_tn, q_tr, q_lst, q_tup, q_call, q_cons, q_nil, q_cI, q_ari, q_ix, q_sl, q_s0, q_s1, q_ki, q_kn, q_kb, q_ks, q_neg, q_negD, q_ci, q_cb, q_cs, q_cn, if_true, q_ok, q_ii, q_or, q_and, q_one, q_not, q_cmp, q_eq, q_ne, q_lt, q_le, q_gt, q_ge, q_is, q_isnot, q_isnN, q_isnI, q_isnL, q_isnT, q_notR, q_boolD, Bool.not_true, Bool.not_false, List.length_cons, List.length_nil, sz (show 0 ≤ 1000000 by decide), sz (show 0 + 1 ≤ 1000000 by decide), sz (show 0 + 1 + 1 ≤ 1000000 by decide), q_lok, q_t1, q_t2, q_t3, q_t4, q_blt, q_blt1, q_blt2, q_eqi, ec, ef]) (sqx ?_)
    have i0 : ixD (.tuple [.int (a : Int), .int (b : Int), .int (t : Int)]) (.int 0) = .ok (.int (a : Int)) := rfl
    have i1 : ixD (.tuple [.int (a : Int), .int (b : Int), .int (t : Int)]) (.int 1) = .ok (.int (b : Int)) := rfl
    have i2 : ixD (.tuple [.int (a : Int), .int (b : Int), .int (t : Int)]) (.int 2) = .ok (.int (t : Int)) := rfl
    have e1 := n_add1 t
    simp only [List.set_cons_succ, List.set_cons_zero, q_sasg, q_spar, q_sret, q_sretS, q_sife, q_snil, q_tn, q_tr, q_lst, q_tup, q_call, q_cons, q_nil, q_cI, q_ari, q_ix, q_sl, q_s0, q_s1, q_ki, q_kn, q_kb, q_ks, q_neg, q_negD, q_ci, q_cb, q_cs, q_cn, if_true, q_ok, q_ii, q_or, q_and, q_one, q_not, q_cmp, q_eq, q_ne, q_lt, q_le, q_gt, q_ge, q_is, q_isnot, q_isnN, q_isnI, q_isnL, q_isnT, q_notR, q_boolD, Bool.not_true, Bool.not_false, List.length_cons, List.length_nil, sz (show 0 ≤ 1000000 by decide), sz (show 0 + 1 ≤ 1000000 by decide), sz (show 0 + 1 + 1 ≤ 1000000 by decide), q_lok, q_t1, q_t2, q_t3, q_t4, q_blt, q_blt1, q_blt2, q_eqi]
    exact sqx (by simp only [List.set_cons_succ, List.set_cons_zero, q_sasg, q_spar, q_sret, q_sretS, q_sife, q_snil, q_tn, q_tr, q_lst, q_tup, q_call, q_cons, q_nil, q_cI, q_ari, q_ix, q_sl, q_s0, q_s1, q_ki, q_kn, q_kb, q_ks, q_neg, q_negD, q_ci, q_cb, q_cs, q_cn, if_true, q_ok, q_ii, q_or, q_and, q_one, q_not, q_cmp, q_eq, q_ne, q_lt, q_le, q_gt, q_ge, q_is, q_isnot, q_isnN, q_isnI, q_isnL, q_isnT, q_notR, q_boolD, Bool.not_true, Bool.not_false, List.length_cons, List.length_nil, sz (show 0 ≤ 1000000 by decide), sz (show 0 + 1 ≤ 1000000 by decide), sz (show 0 + 1 + 1 ≤ 1000000 by decide), q_lok, q_t1, q_t2, q_t3, q_t4, q_blt, q_blt1, q_blt2, q_eqi, i0, i1, i2, e1, sz (show 0 + 1 + 1 + 1 + 1 ≤ 1000000 by decide)])
  · obtain ⟨T, eT, hT, hTo⟩ := f_table h1 hk C hA
    refine .inl ⟨T, F_rt (s := Tomega_paper) (δ := [some (.int (k : Int)), some (cN c), none, none, none]) rfl rfl ?_, hT, hTo, hA⟩
    unfold Tomega_paper
    refine sq (δ1 := [some (.int (k : Int)), some (cN c), some .none, none, none]) (by simp only [List.set_cons_succ, List.set_cons_zero, q_sasg, q_spar, q_sret, q_sretS, q_sife, q_snil, q_tn, q_tr, q_lst, q_tup, q_call, q_cons, q_nil, q_cI, q_ari, q_ix, q_sl, q_s0, q_s1, q_ki, q_kn, q_kb, q_ks, q_neg, q_negD, q_ci, q_cb, q_cs, q_cn, if_true, q_ok, q_ii, q_or, q_and, q_one, q_not, q_cmp, q_eq, q_ne, q_lt, q_le, q_gt, q_ge, q_is, q_isnot, q_isnN, q_isnI, q_isnL, q_isnT, q_notR, q_boolD, Bool.not_true, Bool.not_false, List.length_cons, List.length_nil, sz (show 0 ≤ 1000000 by decide), sz (show 0 + 1 ≤ 1000000 by decide), sz (show 0 + 1 + 1 ≤ 1000000 by decide), q_lok, q_t1, q_t2, q_t3, q_t4, q_blt, q_blt1, q_blt2, q_eqi, ec, ef]) (sq (δ1 := [some (.int (k : Int)), some (cN c), some .none, none, none]) (by simp only [List.set_cons_succ, List.set_cons_zero, q_sasg, q_spar, q_sret, q_sretS, q_sife, q_snil, q_tn, q_tr, q_lst, q_tup, q_call, q_cons, q_nil, q_cI, q_ari, q_ix, q_sl, q_s0, q_s1, q_ki, q_kn, q_kb, q_ks, q_neg, q_negD, q_ci, q_cb, q_cs, q_cn, if_true, q_ok, q_ii, q_or, q_and, q_one, q_not, q_cmp, q_eq, q_ne, q_lt, q_le, q_gt, q_ge, q_is, q_isnot, q_isnN, q_isnI, q_isnL, q_isnT, q_notR, q_boolD, Bool.not_true, Bool.not_false, List.length_cons, List.length_nil, sz (show 0 ≤ 1000000 by decide), sz (show 0 + 1 ≤ 1000000 by decide), sz (show 0 + 1 + 1 ≤ 1000000 by decide), q_lok, q_t1, q_t2, q_t3, q_t4, q_blt, q_blt1, q_blt2, q_eqi]) (sqx ?_))
    simp only [List.set_cons_succ, List.set_cons_zero, q_sasg, q_spar, q_sret, q_sretS, q_sife, q_snil, q_tn, q_tr, q_lst, q_tup, q_call, q_cons, q_nil, q_cI, q_ari, q_ix, q_sl, q_s0, q_s1, q_ki, q_kn, q_kb, q_ks, q_neg, q_negD, q_ci, q_cb, q_cs, q_cn, if_true, q_ok, q_ii, q_or, q_and, q_one, q_not, q_cmp, q_eq, q_ne, q_lt, q_le, q_gt, q_ge, q_is, q_isnot, q_isnN, q_isnI, q_isnL, q_isnT, q_notR, q_boolD, Bool.not_true, Bool.not_false, List.length_cons, List.length_nil, sz (show 0 ≤ 1000000 by decide), sz (show 0 + 1 ≤ 1000000 by decide), sz (show 0 + 1 + 1 ≤ 1000000 by decide), q_lok, q_t1, q_t2, q_t3, q_t4, q_blt, q_blt1, q_blt2, q_eqi, eT]
theorem bw_len (k a b : Nat) : (bw k a b).length = k := by unfold bw; rw [List.length_map, List.length_range]
theorem nets_len (k : Nat) : (nets k).length = k + 1 := by unfold nets; rw [List.length_map, List.length_range]
theorem nets_at {k s : Nat} (h : s < k + 1) : (nets k).getD s [] = (List.range (2 ^ k)).map fun l => na k l s := by
  rw [getD_in _ (by rw [nets_len]; exact h)]
  unfold nets
  rw [List.getElem_map, List.getElem_range]
theorem net_at {k s l : Nat} (h : l < 2 ^ k) : ((List.range (2 ^ k)).map fun l => na k l s).getD l 0 = na k l s := by
  rw [getD_in _ (by rw [List.length_map, List.length_range]; exact h), List.getElem_map, List.getElem_range]
theorem cN_copy {c : List (Nat × Nat)} {j : Nat} {δ : Sl} (h : slotD δ j = .ok (cN c)) : ev (.cL (.blt .list (.cons (.sl j) .nil))) δ = .ok (cN c) := cN_cL (by
  rw [q_blt, q_cons, q_sl, h]
  rfl)
def bR' (r : R Bool) (b : Bool) : Bool := match r with
  | .ok c => c == b
  | _ => false
theorem bR'_eq {r : R Bool} {b : Bool} (h : bR' r b = true) : r = .ok b := by
  unfold bR' at h
  split at h
  · rw [eq_of_beq h]
  · cases h
theorem eq_ss : eqD (.str "settings") (.str "settings") = .ok true := bR'_eq (by decide +kernel)
theorem eq_cs : eqD (.str "clash") (.str "settings") = .ok false := bR'_eq (by decide +kernel)
theorem eq_ll : eqD (.list []) (.list []) = .ok true := bR'_eq (by decide +kernel)
theorem eq_bb (a b : Bool) : eqD (.bool a) (.bool b) = .ok (decide (a = b)) := by cases a <;> cases b <;> exact bR'_eq (by decide +kernel)
theorem filt_no {α : Type} (l : List α) : l.filter (fun _ => false) = [] := List.filter_eq_nil_iff.mpr fun _ _ h => by cases h
theorem f_right {k : Nat} {c : List (Nat × Nat)} (h1 : 1 ≤ k) (hk : k ≤ 5) (C : Cls k c) : F_law_right [.int (k : Int), cN c, bN (nets k)] = .ok (.bool true) := by
  have p1 := p5 hk
  have h60 : (2 : Nat) ^ k < 2 ^ 60 := Nat.pow_lt_pow_right (by decide) (by omega)
  refine F_rt (s := T_law_right) (δ := [some (.int (k : Int)), some (cN c), some (bN (nets k)), none, none, none, none, none, none, none, none]) rfl rfl ?_
  unfold T_law_right
  have mc : ∀ p ∈ c, p.1 < 2 ^ k ∧ p.2 < 2 ^ k := fun p hp => by
    obtain ⟨i, hi, rfl⟩ := List.mem_iff_getElem.mp hp
    have a := C.a i hi
    have b := C.b i hi
    unfold ca at a
    unfold cb' at b
    rw [getD_in _ hi] at a b
    exact ⟨a, b⟩
  have ec : ev (.comp [("a", 7), ("b", 8)] (.tup [7, 8]) (.sl 1) .nop (.call "_law_omega" F_law_omega .F (.cons (.cI (.sl 0)) (.cons (.cI (.sl 7)) (.cons (.cI (.sl 8)) .nil))))) [some (.int (k : Int)), some (cN c), some (bN (nets k)), none, none, none, none, none, none, none, none] = .ok (bN (ways k c)) := by
    refine ev_ways hk rfl fun p hp => ⟨_, rfl, ?_⟩
    have e := f_lomega hk (mc p hp).1 (mc p hp).2
    simp only [q_w1, q_w0, List.map_cons, List.map_nil, List.set_cons_succ, List.set_cons_zero, q_sasg, q_spar, q_sret, q_sretS, q_sife, q_snil, q_tn, q_tr, q_lst, q_tup, q_call, q_cons, q_nil, q_cI, q_ari, q_ix, q_sl, q_s0, q_s1, q_ki, q_kn, q_kb, q_ks, q_neg, q_negD, q_ci, q_cb, q_cs, q_cn, if_true, q_ok, q_ii, q_or, q_and, q_one, q_not, q_cmp, q_eq, q_ne, q_lt, q_le, q_gt, q_ge, q_is, q_isnot, q_isnN, q_isnI, q_isnL, q_isnT, q_notR, q_boolD, Bool.not_true, Bool.not_false, List.length_cons, List.length_nil, sz (show 0 ≤ 1000000 by decide), sz (show 0 + 1 ≤ 1000000 by decide), sz (show 0 + 1 + 1 ≤ 1000000 by decide), q_lok, q_t1, q_t2, q_t3, q_t4, q_blt, q_blt1, q_blt2, q_eqi, e]
  refine sq (δ1 := [some (.int (k : Int)), some (cN c), some (bN (nets k)), some (bN (ways k c)), none, none, none, none, none, none, none]) (by simp only [List.set_cons_succ, List.set_cons_zero, q_sasg, q_spar, q_sret, q_sretS, q_sife, q_snil, q_tn, q_tr, q_lst, q_tup, q_call, q_cons, q_nil, q_cI, q_ari, q_ix, q_sl, q_s0, q_s1, q_ki, q_kn, q_kb, q_ks, q_neg, q_negD, q_ci, q_cb, q_cs, q_cn, if_true, q_ok, q_ii, q_or, q_and, q_one, q_not, q_cmp, q_eq, q_ne, q_lt, q_le, q_gt, q_ge, q_is, q_isnot, q_isnN, q_isnI, q_isnL, q_isnT, q_notR, q_boolD, Bool.not_true, Bool.not_false, List.length_cons, List.length_nil, sz (show 0 ≤ 1000000 by decide), sz (show 0 + 1 ≤ 1000000 by decide), sz (show 0 + 1 + 1 ≤ 1000000 by decide), q_lok, q_t1, q_t2, q_t3, q_t4, q_blt, q_blt1, q_blt2, q_eqi, ec]) ?_
  have hw := ways_len k c
  refine sq_rng c.length (by simp only [List.set_cons_succ, List.set_cons_zero, q_sasg, q_spar, q_sret, q_sretS, q_sife, q_snil, q_tn, q_tr, q_lst, q_tup, q_call, q_cons, q_nil, q_cI, q_ari, q_ix, q_sl, q_s0, q_s1, q_ki, q_kn, q_kb, q_ks, q_neg, q_negD, q_ci, q_cb, q_cs, q_cn, if_true, q_ok, q_ii, q_or, q_and, q_one, q_not, q_cmp, q_eq, q_ne, q_lt, q_le, q_gt, q_ge, q_is, q_isnot, q_isnN, q_isnI, q_isnL, q_isnT, q_notR, q_boolD, Bool.not_true, Bool.not_false, List.length_cons, List.length_nil, sz (show 0 ≤ 1000000 by decide), sz (show 0 + 1 ≤ 1000000 by decide), sz (show 0 + 1 + 1 ≤ 1000000 by decide), q_lok, q_t1, q_t2, q_t3, q_t4, q_blt, q_blt1, q_blt2, q_eqi, cN_len]) (by have := C.l; omega) (by omega) (fun t δ => ∃ x4 x5, δ = [some (.int (k : Int)), some (cN c), some (bN (nets k)), some (bN (ways k c)), x4, x5, none, none, none, none, none]) ⟨_, _, rfl⟩ (fun i δ hi hI => ?_) (fun δ' hI => ?_)
  · obtain ⟨x4, x5, rfl⟩ := hI
    have hi : i < c.length := by omega
    have ha := C.a i hi
    have hb := C.b i hi
    have c1 := cN_at hi
    have w1 := bN_at (b := ways k c) (i := i) (by omega)
    rw [ways_at hi] at w1
    have ep : c.getD i (0, 0) = (ca c i, cb' c i) := rfl
    rw [ep] at c1
    generalize ca c i = a at *
    generalize cb' c i = b at *
    have f1 := f_way (a := a) (b := b) hk
    have f2 := f_bway (a := a) (b := b) hk (by omega)
    have f3 := f_lfly hk ha hb
    have q1 := eq_iN (ow k a b)
    have q2 := eq_iN (bw k a b)
    have n0 := bN_at (b := nets k) (i := 0) (by rw [nets_len]; omega)
    have nk := bN_at (b := nets k) (i := k) (by rw [nets_len]; omega)
    rw [nets_at (by omega)] at n0 nk
    have n0a := iN_at (l := (List.range (2 ^ k)).map fun l => na k l 0) (i := a) (by simpa using ha)
    have nkb := iN_at (l := (List.range (2 ^ k)).map fun l => na k l k) (i := b) (by simpa using hb)
    rw [net_at ha, (a_ends0 k (by omega) a ha).1] at n0a
    rw [net_at hb, (a_ends0 k (by omega) b hb).2] at nkb
    have n0 : ixD (bN (nets k)) (.int 0) = .ok (iN ((List.range (2 ^ k)).map fun l => na k l 0)) := n0
    have es : ev (.comp [("t", 9)] (.one 9) (.rng1 (.sl 0)) .nop (.cI (.ix (.ix (.sl 2) (.ari .Add (.sl 9) (.k (.int 1)))) (.ix (.ix (.sl 3) (.sl 4)) (.sl 9))))) [some (.int (k : Int)), some (cN c), some (bN (nets k)), some (bN (ways k c)), some (.int (i : Int)), x5, none, none, none, none, none] = .ok (iN (bw k a b)) := by
      rw [ev_comp (List.range k) (fun (i : Nat) => PyData.int (i : Int)) (fun t => .int (bl k a b (t + 1) : Int)) (ev_rng1 rfl (by omega)) fun t ht => ?_]
      · unfold iN bw
        rw [List.map_map]
        rfl
      · have ht := List.mem_range.mp ht
        have l2 := (a_lt0 k (by omega) (t + 1) (by omega) a ha b hb).1
        have o1 := iN_at (l := ow k a b) (i := t) (by rw [ow_len]; exact ht)
        rw [ow_at ht] at o1
        have e1 := n_add1 t
        have n1 := bN_at (b := nets k) (i := t + 1) (by rw [nets_len]; omega)
        rw [nets_at (by omega)] at n1
        have n2 := iN_at (l := (List.range (2 ^ k)).map fun l => na k l (t + 1)) (i := ol k a b (t + 1)) (by simpa using l2)
        rw [net_at l2, a_na0 k (by omega) (t + 1) (by omega) a ha b hb] at n2
        refine ⟨_, rfl, ?_⟩
        simp only [q_w1, q_w0, List.map_cons, List.map_nil, List.set_cons_succ, List.set_cons_zero, q_sasg, q_spar, q_sret, q_sretS, q_sife, q_snil, q_tn, q_tr, q_lst, q_tup, q_call, q_cons, q_nil, q_cI, q_ari, q_ix, q_sl, q_s0, q_s1, q_ki, q_kn, q_kb, q_ks, q_neg, q_negD, q_ci, q_cb, q_cs, q_cn, if_true, q_ok, q_ii, q_or, q_and, q_one, q_not, q_cmp, q_eq, q_ne, q_lt, q_le, q_gt, q_ge, q_is, q_isnot, q_isnN, q_isnI, q_isnL, q_isnT, q_notR, q_boolD, Bool.not_true, Bool.not_false, List.length_cons, List.length_nil, sz (show 0 ≤ 1000000 by decide), sz (show 0 + 1 ≤ 1000000 by decide), sz (show 0 + 1 + 1 ≤ 1000000 by decide), q_lok, q_t1, q_t2, q_t3, q_t4, q_blt, q_blt1, q_blt2, q_eqi, w1, o1, e1, n1, n2]
    refine ⟨_, sq (δ1 := [some (.int (k : Int)), some (cN c), some (bN (nets k)), some (bN (ways k c)), some (.int (i : Int)), x5, none, none, none, none, none]) ?_ (sq (δ1 := [some (.int (k : Int)), some (cN c), some (bN (nets k)), some (bN (ways k c)), some (.int (i : Int)), x5, none, none, none, none, none]) ?_ (sq (δ1 := [some (.int (k : Int)), some (cN c), some (bN (nets k)), some (bN (ways k c)), some (.int (i : Int)), some (iN (bw k a b)), none, none, none, none, none]) ?_ (sq (δ1 := [some (.int (k : Int)), some (cN c), some (bN (nets k)), some (bN (ways k c)), some (.int (i : Int)), some (iN (bw k a b)), none, none, none, none, none]) ?_ rfl))), _, _, rfl⟩
    · simp only [List.set_cons_succ, List.set_cons_zero, q_sasg, q_spar, q_sret, q_sretS, q_sife, q_snil, q_tn, q_tr, q_lst, q_tup, q_call, q_cons, q_nil, q_cI, q_ari, q_ix, q_sl, q_s0, q_s1, q_ki, q_kn, q_kb, q_ks, q_neg, q_negD, q_ci, q_cb, q_cs, q_cn, if_true, q_ok, q_ii, q_or, q_and, q_one, q_not, q_cmp, q_eq, q_ne, q_lt, q_le, q_gt, q_ge, q_is, q_isnot, q_isnN, q_isnI, q_isnL, q_isnT, q_notR, q_boolD, Bool.not_true, Bool.not_false, List.length_cons, List.length_nil, sz (show 0 ≤ 1000000 by decide), sz (show 0 + 1 ≤ 1000000 by decide), sz (show 0 + 1 + 1 ≤ 1000000 by decide), q_lok, q_t1, q_t2, q_t3, q_t4, q_blt, q_blt1, q_blt2, q_eqi, c1, p_0, p_1, f1, w1, q1]
    · simp only [List.set_cons_succ, List.set_cons_zero, q_sasg, q_spar, q_sret, q_sretS, q_sife, q_snil, q_tn, q_tr, q_lst, q_tup, q_call, q_cons, q_nil, q_cI, q_ari, q_ix, q_sl, q_s0, q_s1, q_ki, q_kn, q_kb, q_ks, q_neg, q_negD, q_ci, q_cb, q_cs, q_cn, if_true, q_ok, q_ii, q_or, q_and, q_one, q_not, q_cmp, q_eq, q_ne, q_lt, q_le, q_gt, q_ge, q_is, q_isnot, q_isnN, q_isnI, q_isnL, q_isnT, q_notR, q_boolD, Bool.not_true, Bool.not_false, List.length_cons, List.length_nil, sz (show 0 ≤ 1000000 by decide), sz (show 0 + 1 ≤ 1000000 by decide), sz (show 0 + 1 + 1 ≤ 1000000 by decide), q_lok, q_t1, q_t2, q_t3, q_t4, q_blt, q_blt1, q_blt2, q_eqi, c1, p_0, p_1, f2, f3, q2]
    · simp only [List.set_cons_succ, List.set_cons_zero, q_sasg, q_spar, q_sret, q_sretS, q_sife, q_snil, q_tn, q_tr, q_lst, q_tup, q_call, q_cons, q_nil, q_cI, q_ari, q_ix, q_sl, q_s0, q_s1, q_ki, q_kn, q_kb, q_ks, q_neg, q_negD, q_ci, q_cb, q_cs, q_cn, if_true, q_ok, q_ii, q_or, q_and, q_one, q_not, q_cmp, q_eq, q_ne, q_lt, q_le, q_gt, q_ge, q_is, q_isnot, q_isnN, q_isnI, q_isnL, q_isnT, q_notR, q_boolD, Bool.not_true, Bool.not_false, List.length_cons, List.length_nil, sz (show 0 ≤ 1000000 by decide), sz (show 0 + 1 ≤ 1000000 by decide), sz (show 0 + 1 + 1 ≤ 1000000 by decide), q_lok, q_t1, q_t2, q_t3, q_t4, q_blt, q_blt1, q_blt2, q_eqi, es]
    · simp only [List.set_cons_succ, List.set_cons_zero, q_sasg, q_spar, q_sret, q_sretS, q_sife, q_snil, q_tn, q_tr, q_lst, q_tup, q_call, q_cons, q_nil, q_cI, q_ari, q_ix, q_sl, q_s0, q_s1, q_ki, q_kn, q_kb, q_ks, q_neg, q_negD, q_ci, q_cb, q_cs, q_cn, if_true, q_ok, q_ii, q_or, q_and, q_one, q_not, q_cmp, q_eq, q_ne, q_lt, q_le, q_gt, q_ge, q_is, q_isnot, q_isnN, q_isnI, q_isnL, q_isnT, q_notR, q_boolD, Bool.not_true, Bool.not_false, List.length_cons, List.length_nil, sz (show 0 ≤ 1000000 by decide), sz (show 0 + 1 ≤ 1000000 by decide), sz (show 0 + 1 + 1 ≤ 1000000 by decide), q_lok, q_t1, q_t2, q_t3, q_t4, q_blt, q_blt1, q_blt2, q_eqi, c1, p_0, p_1, n0, nk, n0a, nkb, f3, q2]
  · obtain ⟨x4, x5, rfl⟩ := hI
    have ecp : ev (.cL (.blt .list (.cons (.sl 1) .nil))) [some (.int (k : Int)), some (cN c), some (bN (nets k)), some (bN (ways k c)), x4, x5, none, none, none, none, none] = .ok (cN c) := cN_copy rfl
    rcases f_paper h1 hk C with ⟨T, eT, hT, hTo, hA⟩ | ⟨a, b, t, g1, g2, g3, g4, ef⟩
    · have fa : F_law_apart [bN (ways k c)] = .ok (.bool true) := by
        rcases f_apart (by omega) (ways_lk k c) (by rw [ways_len]; have := C.l; omega) with ⟨h, _⟩ | ⟨_, h⟩
        · exact h
        · exact absurd hA h
      have i0 : ixD (.tuple [.str "settings", tN T]) (.int 0) = .ok (.str "settings") := rfl
      have i1 : ixD (.tuple [.str "settings", tN T]) (.int 1) = .ok (tN T) := rfl
      refine sq (δ1 := [some (.int (k : Int)), some (cN c), some (bN (nets k)), some (bN (ways k c)), x4, x5, some (.tuple [.str "settings", tN T]), none, none, none, none]) (by simp only [List.set_cons_succ, List.set_cons_zero, q_sasg, q_spar, q_sret, q_sretS, q_sife, q_snil, q_tn, q_tr, q_lst, q_tup, q_call, q_cons, q_nil, q_cI, q_ari, q_ix, q_sl, q_s0, q_s1, q_ki, q_kn, q_kb, q_ks, q_neg, q_negD, q_ci, q_cb, q_cs, q_cn, if_true, q_ok, q_ii, q_or, q_and, q_one, q_not, q_cmp, q_eq, q_ne, q_lt, q_le, q_gt, q_ge, q_is, q_isnot, q_isnN, q_isnI, q_isnL, q_isnT, q_notR, q_boolD, Bool.not_true, Bool.not_false, List.length_cons, List.length_nil, sz (show 0 ≤ 1000000 by decide), sz (show 0 + 1 ≤ 1000000 by decide), sz (show 0 + 1 + 1 ≤ 1000000 by decide), q_lok, q_t1, q_t2, q_t3, q_t4, q_blt, q_blt1, q_blt2, q_eqi, ecp, eT]) ?_
      refine sq (δ1 := [some (.int (k : Int)), some (cN c), some (bN (nets k)), some (bN (ways k c)), x4, x5, some (.tuple [.str "settings", tN T]), none, none, none, none]) (by simp only [List.set_cons_succ, List.set_cons_zero, q_sasg, q_spar, q_sret, q_sretS, q_sife, q_snil, q_tn, q_tr, q_lst, q_tup, q_call, q_cons, q_nil, q_cI, q_ari, q_ix, q_sl, q_s0, q_s1, q_ki, q_kn, q_kb, q_ks, q_neg, q_negD, q_ci, q_cb, q_cs, q_cn, if_true, q_ok, q_ii, q_or, q_and, q_one, q_not, q_cmp, q_eq, q_ne, q_lt, q_le, q_gt, q_ge, q_is, q_isnot, q_isnN, q_isnI, q_isnL, q_isnT, q_notR, q_boolD, Bool.not_true, Bool.not_false, List.length_cons, List.length_nil, sz (show 0 ≤ 1000000 by decide), sz (show 0 + 1 ≤ 1000000 by decide), sz (show 0 + 1 + 1 ≤ 1000000 by decide), q_lok, q_t1, q_t2, q_t3, q_t4, q_blt, q_blt1, q_blt2, q_eqi, i0, eq_ss, fa, eq_bb, decide_true]) (sqx ?_)
      simp only [List.set_cons_succ, List.set_cons_zero, q_sasg, q_spar, q_sret, q_sretS, q_sife, q_snil, q_tn, q_tr, q_lst, q_tup, q_call, q_cons, q_nil, q_cI, q_ari, q_ix, q_sl, q_s0, q_s1, q_ki, q_kn, q_kb, q_ks, q_neg, q_negD, q_ci, q_cb, q_cs, q_cn, if_true, q_ok, q_ii, q_or, q_and, q_one, q_not, q_cmp, q_eq, q_ne, q_lt, q_le, q_gt, q_ge, q_is, q_isnot, q_isnN, q_isnI, q_isnL, q_isnT, q_notR, q_boolD, Bool.not_true, Bool.not_false, List.length_cons, List.length_nil, sz (show 0 ≤ 1000000 by decide), sz (show 0 + 1 ≤ 1000000 by decide), sz (show 0 + 1 + 1 ≤ 1000000 by decide), q_lok, q_t1, q_t2, q_t3, q_t4, q_blt, q_blt1, q_blt2, q_eqi, i0, eq_ss]
      refine sqx ?_
      rw [q_sret, q_cmp, ev_compF c pN pN (fun _ => false) rfl fun p hp => ?_]
      · rw [filt_no]
        simp only [List.set_cons_succ, List.set_cons_zero, q_sasg, q_spar, q_sret, q_sretS, q_sife, q_snil, q_tn, q_tr, q_lst, q_tup, q_call, q_cons, q_nil, q_cI, q_ari, q_ix, q_sl, q_s0, q_s1, q_ki, q_kn, q_kb, q_ks, q_neg, q_negD, q_ci, q_cb, q_cs, q_cn, if_true, q_ok, q_ii, q_or, q_and, q_one, q_not, q_cmp, q_eq, q_ne, q_lt, q_le, q_gt, q_ge, q_is, q_isnot, q_isnN, q_isnI, q_isnL, q_isnT, q_notR, q_boolD, Bool.not_true, Bool.not_false, List.length_cons, List.length_nil, sz (show 0 ≤ 1000000 by decide), sz (show 0 + 1 ≤ 1000000 by decide), sz (show 0 + 1 + 1 ≤ 1000000 by decide), q_lok, q_t1, q_t2, q_t3, q_t4, q_blt, q_blt1, q_blt2, q_eqi, List.map_nil, eq_ll]
      · obtain ⟨i, hi, e⟩ := List.mem_iff_getElem.mp hp
        have e1 : p.1 = ca c i := by unfold ca; rw [getD_in _ hi, e]
        have e2 : p.2 = cb' c i := by unfold cb'; rw [getD_in _ hi, e]
        have fw := f_walked h1 hk (mc p hp).1 (mc p hp).2 hT (fun t ht => by
          have := hTo i hi t ht
          rw [e1, e2]; exact this)
        refine ⟨_, rfl, ?_, fun z => by cases z⟩
        simp only [q_w1, q_w0, List.map_cons, List.map_nil, q_cprt, List.set_cons_succ, List.set_cons_zero, q_sasg, q_spar, q_sret, q_sretS, q_sife, q_snil, q_tn, q_tr, q_lst, q_tup, q_call, q_cons, q_nil, q_cI, q_ari, q_ix, q_sl, q_s0, q_s1, q_ki, q_kn, q_kb, q_ks, q_neg, q_negD, q_ci, q_cb, q_cs, q_cn, if_true, q_ok, q_ii, q_or, q_and, q_one, q_not, q_cmp, q_eq, q_ne, q_lt, q_le, q_gt, q_ge, q_is, q_isnot, q_isnN, q_isnI, q_isnL, q_isnT, q_notR, q_boolD, Bool.not_true, Bool.not_false, List.length_cons, List.length_nil, sz (show 0 ≤ 1000000 by decide), sz (show 0 + 1 ≤ 1000000 by decide), sz (show 0 + 1 + 1 ≤ 1000000 by decide), q_lok, q_t1, q_t2, q_t3, q_t4, q_blt, q_blt1, q_blt2, q_eqi, p_0, p_1, i1, fw, decide_true]
    · have fa : F_law_apart [bN (ways k c)] = .ok (.bool false) := by
        rcases f_apart (by omega) (ways_lk k c) (by rw [ways_len]; have := C.l; omega) with ⟨_, h⟩ | ⟨h, _⟩
        · exact absurd g4 (h a b g1 (by omega) t (by rw [ways_at (by omega), ow_len]; exact g3))
        · exact h
      have i0 : ixD (.tuple [.str "clash", .int (a : Int), .int (b : Int), .int ((t + 1 : Nat) : Int)]) (.int 0) = .ok (.str "clash") := rfl
      have i1 : ixD (.tuple [.str "clash", .int (a : Int), .int (b : Int), .int ((t + 1 : Nat) : Int)]) (.int 1) = .ok (.int (a : Int)) := rfl
      have i2 : ixD (.tuple [.str "clash", .int (a : Int), .int (b : Int), .int ((t + 1 : Nat) : Int)]) (.int 2) = .ok (.int (b : Int)) := rfl
      have i3 : ixD (.tuple [.str "clash", .int (a : Int), .int (b : Int), .int ((t + 1 : Nat) : Int)]) (.int 3) = .ok (.int ((t + 1 : Nat) : Int)) := rfl
      have w1 := bN_at (b := ways k c) (i := a) (by omega)
      have w2 := bN_at (b := ways k c) (i := b) (by omega)
      have s1 := n_sub1 (a := t + 1) (by omega)
      rw [Nat.add_sub_cancel] at s1
      have v1 := iN_at (l := (ways k c).getD a []) (i := t) (by rw [ways_at (by omega), ow_len]; exact g3)
      have v2 := iN_at (l := (ways k c).getD b []) (i := t) (by rw [ways_at (by omega), ow_len]; exact g3)
      have g4 : ((ways k c).getD a []).getD t 0 = ((ways k c).getD b []).getD t 0 := g4
      refine sq (δ1 := [some (.int (k : Int)), some (cN c), some (bN (nets k)), some (bN (ways k c)), x4, x5, some (.tuple [.str "clash", .int (a : Int), .int (b : Int), .int ((t + 1 : Nat) : Int)]), none, none, none, none]) (by simp only [List.set_cons_succ, List.set_cons_zero, q_sasg, q_spar, q_sret, q_sretS, q_sife, q_snil, q_tn, q_tr, q_lst, q_tup, q_call, q_cons, q_nil, q_cI, q_ari, q_ix, q_sl, q_s0, q_s1, q_ki, q_kn, q_kb, q_ks, q_neg, q_negD, q_ci, q_cb, q_cs, q_cn, if_true, q_ok, q_ii, q_or, q_and, q_one, q_not, q_cmp, q_eq, q_ne, q_lt, q_le, q_gt, q_ge, q_is, q_isnot, q_isnN, q_isnI, q_isnL, q_isnT, q_notR, q_boolD, Bool.not_true, Bool.not_false, List.length_cons, List.length_nil, sz (show 0 ≤ 1000000 by decide), sz (show 0 + 1 ≤ 1000000 by decide), sz (show 0 + 1 + 1 ≤ 1000000 by decide), q_lok, q_t1, q_t2, q_t3, q_t4, q_blt, q_blt1, q_blt2, q_eqi, ecp, ef]) ?_
      refine sq (δ1 := [some (.int (k : Int)), some (cN c), some (bN (nets k)), some (bN (ways k c)), x4, x5, some (.tuple [.str "clash", .int (a : Int), .int (b : Int), .int ((t + 1 : Nat) : Int)]), none, none, none, none]) (by simp only [List.set_cons_succ, List.set_cons_zero, q_sasg, q_spar, q_sret, q_sretS, q_sife, q_snil, q_tn, q_tr, q_lst, q_tup, q_call, q_cons, q_nil, q_cI, q_ari, q_ix, q_sl, q_s0, q_s1, q_ki, q_kn, q_kb, q_ks, q_neg, q_negD, q_ci, q_cb, q_cs, q_cn, if_true, q_ok, q_ii, q_or, q_and, q_one, q_not, q_cmp, q_eq, q_ne, q_lt, q_le, q_gt, q_ge, q_is, q_isnot, q_isnN, q_isnI, q_isnL, q_isnT, q_notR, q_boolD, Bool.not_true, Bool.not_false, List.length_cons, List.length_nil, sz (show 0 ≤ 1000000 by decide), sz (show 0 + 1 ≤ 1000000 by decide), sz (show 0 + 1 + 1 ≤ 1000000 by decide), q_lok, q_t1, q_t2, q_t3, q_t4, q_blt, q_blt1, q_blt2, q_eqi, i0, eq_cs, fa, eq_bb, decide_true]) ?_
      refine sq (δ1 := [some (.int (k : Int)), some (cN c), some (bN (nets k)), some (bN (ways k c)), x4, x5, some (.tuple [.str "clash", .int (a : Int), .int (b : Int), .int ((t + 1 : Nat) : Int)]), none, none, none, none]) (by simp only [List.set_cons_succ, List.set_cons_zero, q_sasg, q_spar, q_sret, q_sretS, q_sife, q_snil, q_tn, q_tr, q_lst, q_tup, q_call, q_cons, q_nil, q_cI, q_ari, q_ix, q_sl, q_s0, q_s1, q_ki, q_kn, q_kb, q_ks, q_neg, q_negD, q_ci, q_cb, q_cs, q_cn, if_true, q_ok, q_ii, q_or, q_and, q_one, q_not, q_cmp, q_eq, q_ne, q_lt, q_le, q_gt, q_ge, q_is, q_isnot, q_isnN, q_isnI, q_isnL, q_isnT, q_notR, q_boolD, Bool.not_true, Bool.not_false, List.length_cons, List.length_nil, sz (show 0 ≤ 1000000 by decide), sz (show 0 + 1 ≤ 1000000 by decide), sz (show 0 + 1 + 1 ≤ 1000000 by decide), q_lok, q_t1, q_t2, q_t3, q_t4, q_blt, q_blt1, q_blt2, q_eqi, i0, eq_cs]) (sqx ?_)
      simp only [List.set_cons_succ, List.set_cons_zero, q_sasg, q_spar, q_sret, q_sretS, q_sife, q_snil, q_tn, q_tr, q_lst, q_tup, q_call, q_cons, q_nil, q_cI, q_ari, q_ix, q_sl, q_s0, q_s1, q_ki, q_kn, q_kb, q_ks, q_neg, q_negD, q_ci, q_cb, q_cs, q_cn, if_true, q_ok, q_ii, q_or, q_and, q_one, q_not, q_cmp, q_eq, q_ne, q_lt, q_le, q_gt, q_ge, q_is, q_isnot, q_isnN, q_isnI, q_isnL, q_isnT, q_notR, q_boolD, Bool.not_true, Bool.not_false, List.length_cons, List.length_nil, sz (show 0 ≤ 1000000 by decide), sz (show 0 + 1 ≤ 1000000 by decide), sz (show 0 + 1 + 1 ≤ 1000000 by decide), q_lok, q_t1, q_t2, q_t3, q_t4, q_blt, q_blt1, q_blt2, q_eqi, i1, i2, i3, w1, w2, s1, v1, v2, g4, decide_true]
end VS
set_option Elab.async false
set_option linter.all false
set_option maxRecDepth 100000
namespace VS
open PySem PySem.Spec L2
open PyProof.Rows hiding St
/-! ### groups -/
theorem f_ways {k : Nat} {c : List (Nat × Nat)} (hk : k ≤ 5) : Fways_of [.int (k : Int), cN c] = .ok (bN (ways k c)) := by
  refine F_rt (s := Tways_of) (δ := [some (.int (k : Int)), some (cN c), none, none]) rfl rfl ?_
  unfold Tways_of
  refine sqx ?_
  have ec : ev (.comp [("inlet", 2), ("outlet", 3)] (.tup [2, 3]) (.sl 1) .nop (.call "omega_way" Fomega_way .F (.cons (.cI (.sl 0)) (.cons (.cI (.sl 2)) (.cons (.cI (.sl 3)) .nil))))) [some (.int (k : Int)), some (cN c), none, none] = .ok (bN (ways k c)) := by
    refine ev_ways hk rfl fun p hp => ⟨_, rfl, ?_⟩
    have e := f_way (a := p.1) (b := p.2) hk
    simp only [q_w1, q_w0, List.map_cons, List.map_nil, List.set_cons_succ, List.set_cons_zero, q_sasg, q_spar, q_sret, q_sretS, q_sife, q_snil, q_tn, q_tr, q_lst, q_tup, q_call, q_cons, q_nil, q_cI, q_ari, q_ix, q_sl, q_s0, q_s1, q_ki, q_kn, q_kb, q_ks, q_neg, q_negD, q_ci, q_cb, q_cs, q_cn, if_true, q_ok, q_ii, q_or, q_and, q_one, q_not, q_cmp, q_eq, q_ne, q_lt, q_le, q_gt, q_ge, q_is, q_isnot, q_isnN, q_isnI, q_isnL, q_isnT, q_notR, q_boolD, Bool.not_true, Bool.not_false, List.length_cons, List.length_nil, sz (show 0 ≤ 1000000 by decide), sz (show 0 + 1 ≤ 1000000 by decide), sz (show 0 + 1 + 1 ≤ 1000000 by decide), q_lok, q_t1, q_t2, q_t3, q_t4, q_blt, q_blt1, q_blt2, q_eqi, e]
  rw [q_sret, ec]
  rfl
def Fit (ws : List (List Nat)) (g : List Nat) (x : Nat) : Prop := ∀ o ∈ g, Apt (ws.getD o []) (ws.getD x [])
theorem f_fits {ws : List (List Nat)} {k x : Nat} {g : List Nat} (hk : k ≤ 1000) (hw : Lk k ws) (hg : ∀ o ∈ g, o < ws.length) (hx : x < ws.length) :
    (Ffits_group [bN ws, iN g, .int (x : Int)] = .ok (.bool true) ∧ Fit ws g x) ∨ (Ffits_group [bN ws, iN g, .int (x : Int)] = .ok (.bool false) ∧ ¬ Fit ws g x) := by
  rcases s_for2 (tg := .one 3) (it := .sl 1) (im := true) (τ := [some (.S, true), some (.S, true), some (.S, true), some (.F, false)]) (s := (.seq (.ife (.cmp .IsNot (.call "first_common" Ffirst_common .F (.cons (.ix (.sl 0) (.sl 3)) (.cons (.ix (.sl 0) (.sl 2)) .nil))) (.k (.none))) (.seq (.ret (.k (.bool false))) .nil) .nil) .nil)) (δ := [some (bN ws), some (iN g), some (.int (x : Int)), none]) (xs := g.map fun (c : Nat) => PyData.int (c : Int)) rfl (by rw [iN_imm]; rfl)
    (fun i δ => ∃ x3, δ = [some (bN ws), some (iN g), some (.int (x : Int)), x3] ∧ ∀ j, j < i → Apt (ws.getD (g.getD j 0) []) (ws.getD x [])) (fun d => d = .bool false ∧ ¬ Fit ws g x) ⟨_, rfl, fun j hj => by omega⟩ (fun i δ hi hI => by
      obtain ⟨x3, rfl, hI⟩ := hI
      have hi : i < g.length := by simpa using hi
      have ho := hg _ (List.getElem_mem hi)
      have eg : g.getD i 0 = g[i] := getD_in _ hi
      have gm : g[i] ∈ g := List.getElem_mem hi
      rw [List.getElem_map]
      generalize g[i] = o at *
      have a1 := bN_at ho
      have a2 := bN_at hx
      refine ⟨_, rfl, ?_⟩
      rcases f_common (u := ws.getD o []) (v := ws.getD x []) (by rw [hw o ho, hw x hx]) (by rw [hw o ho]; omega) with ⟨t, ht, he, ef⟩ | ⟨hap, ef⟩
      · refine .inl ⟨.bool false, sqx ?_, rfl, fun hF => hF o gm t ht he⟩
        simp only [List.set_cons_succ, List.set_cons_zero, q_sasg, q_spar, q_sret, q_sretS, q_sife, q_snil, q_tn, q_tr, q_lst, q_tup, q_call, q_cons, q_nil, q_cI, q_ari, q_ix, q_sl, q_s0, q_s1, q_ki, q_kn, q_kb, q_ks, q_neg, q_negD, q_ci, q_cb, q_cs, q_cn, if_true, q_ok, q_ii, q_or, q_and, q_one, q_not, q_cmp, q_eq, q_ne, q_lt, q_le, q_gt, q_ge, q_is, q_isnot, q_isnN, q_isnI, q_isnL, q_isnT, q_notR, q_boolD, Bool.not_true, Bool.not_false, List.length_cons, List.length_nil, sz (show 0 ≤ 1000000 by decide), sz (show 0 + 1 ≤ 1000000 by decide), sz (show 0 + 1 + 1 ≤ 1000000 by decide), q_lok, q_t1, q_t2, q_t3, q_t4, q_blt, q_blt1, q_blt2, q_eqi, a1, a2, ef]
        exact sqx rfl
      · refine .inr ⟨_, sq (δ1 := [some (bN ws), some (iN g), some (.int (x : Int)), some (.int (o : Int))]) (by simp only [List.set_cons_succ, List.set_cons_zero, q_sasg, q_spar, q_sret, q_sretS, q_sife, q_snil, q_tn, q_tr, q_lst, q_tup, q_call, q_cons, q_nil, q_cI, q_ari, q_ix, q_sl, q_s0, q_s1, q_ki, q_kn, q_kb, q_ks, q_neg, q_negD, q_ci, q_cb, q_cs, q_cn, if_true, q_ok, q_ii, q_or, q_and, q_one, q_not, q_cmp, q_eq, q_ne, q_lt, q_le, q_gt, q_ge, q_is, q_isnot, q_isnN, q_isnI, q_isnL, q_isnT, q_notR, q_boolD, Bool.not_true, Bool.not_false, List.length_cons, List.length_nil, sz (show 0 ≤ 1000000 by decide), sz (show 0 + 1 ≤ 1000000 by decide), sz (show 0 + 1 + 1 ≤ 1000000 by decide), q_lok, q_t1, q_t2, q_t3, q_t4, q_blt, q_blt1, q_blt2, q_eqi, a1, a2, ef]) rfl, _, rfl, fun j hj => ?_⟩
        by_cases e : j = i
        · rw [e, eg]; exact hap
        · exact hI j (by omega)) with ⟨d, e, rfl, h⟩ | ⟨δ', e, x3, rfl, hI⟩
  · refine .inr ⟨F_rt (s := Tfits_group) (δ := [some (bN ws), some (iN g), some (.int (x : Int)), none]) rfl rfl (sqx e), h⟩
  · refine .inl ⟨F_rt (s := Tfits_group) (δ := [some (bN ws), some (iN g), some (.int (x : Int)), none]) rfl rfl (sq e (sqx rfl)), fun o ho => ?_⟩
    obtain ⟨i, hi, e⟩ := List.mem_iff_getElem.mp ho
    have := hI i (by simpa using hi)
    rw [getD_in _ hi, e] at this
    exact this
def wm (gs : List (List Nat)) (p x : Nat) : List (List Nat) := gs.set p (gs.getD p [] ++ [x])
theorem wm_eq {gs : List (List Nat)} {p : Nat} (x : Nat) (h : p < gs.length) : gs.take p ++ [gs.getD p [] ++ [x]] ++ gs.drop (p + 1) = wm gs p x := by
  unfold wm
  rw [List.set_eq_take_append_cons_drop, if_pos h, List.append_assoc]
  rfl
theorem f_member {gs : List (List Nat)} {p x : Nat} (h : p < gs.length) (hl : gs.length ≤ 1000) (hg : ∀ g ∈ gs, g.length ≤ 1000) : Fwith_member [bN gs, .int (p : Int), .int (x : Int)] = .ok (bN (wm gs p x)) := by
  refine F_rt (s := Twith_member) (δ := [some (bN gs), some (.int (p : Int)), some (.int (x : Int))]) rfl rfl ?_
  unfold Twith_member
  refine sqx ?_
  have a1 := bN_at h
  have lg := hg (gs.getD p []) (by rw [getD_in _ h]; exact List.getElem_mem h)
  have e1 := iN_cat (a := gs.getD p []) (b := [x]) (by rw [List.length_singleton]; omega)
  have ecl : ev (.cL (.cat (.ix (.sl 0) (.sl 1)) (.lst (.cons (.cI (.sl 2)) .nil)))) [some (bN gs), some (.int (p : Int)), some (.int (x : Int))] = .ok (iN (gs.getD p [] ++ [x])) := iN_cL (by
    simp only [List.set_cons_succ, List.set_cons_zero, q_sasg, q_spar, q_sret, q_sretS, q_sife, q_snil, q_tn, q_tr, q_lst, q_tup, q_call, q_cons, q_nil, q_cI, q_ari, q_ix, q_sl, q_s0, q_s1, q_ki, q_kn, q_kb, q_ks, q_neg, q_negD, q_ci, q_cb, q_cs, q_cn, if_true, q_ok, q_ii, q_or, q_and, q_one, q_not, q_cmp, q_eq, q_ne, q_lt, q_le, q_gt, q_ge, q_is, q_isnot, q_isnN, q_isnI, q_isnL, q_isnT, q_notR, q_boolD, Bool.not_true, Bool.not_false, List.length_cons, List.length_nil, sz (show 0 ≤ 1000000 by decide), sz (show 0 + 1 ≤ 1000000 by decide), sz (show 0 + 1 + 1 ≤ 1000000 by decide), q_lok, q_t1, q_t2, q_t3, q_t4, q_blt, q_blt1, q_blt2, q_eqi, q_cat, a1]
    exact e1)
  have s1 : slcD (bN gs) none (some (p : Int)) = .ok (bN (gs.take p)) := by
    unfold bN
    rw [q_slcL, cut_to, List.map_take]
  have s2 : slcD (bN gs) (some ((p + 1 : Nat) : Int)) none = .ok (bN (gs.drop (p + 1))) := by
    unfold bN
    rw [q_slcL, cut_from _ (by rw [List.length_map]; omega), List.map_drop]
  have e2 := bN_cat (a := gs.take p) (b := [gs.getD p [] ++ [x]]) (by rw [List.length_take, List.length_singleton]; omega)
  have e3 := bN_cat (a := gs.take p ++ [gs.getD p [] ++ [x]]) (b := gs.drop (p + 1)) (by rw [List.length_append, List.length_take, List.length_singleton, List.length_drop]; omega)
  rw [wm_eq x h] at e3
  have n1 := n_add1 p
  have e4 : PyData.list [iN (gs.getD p [] ++ [x])] = bN [gs.getD p [] ++ [x]] := rfl
  simp only [List.set_cons_succ, List.set_cons_zero, q_sasg, q_spar, q_sret, q_sretS, q_sife, q_snil, q_tn, q_tr, q_lst, q_tup, q_call, q_cons, q_nil, q_cI, q_ari, q_ix, q_sl, q_s0, q_s1, q_ki, q_kn, q_kb, q_ks, q_neg, q_negD, q_ci, q_cb, q_cs, q_cn, if_true, q_ok, q_ii, q_or, q_and, q_one, q_not, q_cmp, q_eq, q_ne, q_lt, q_le, q_gt, q_ge, q_is, q_isnot, q_isnN, q_isnI, q_isnL, q_isnT, q_notR, q_boolD, Bool.not_true, Bool.not_false, List.length_cons, List.length_nil, sz (show 0 ≤ 1000000 by decide), sz (show 0 + 1 ≤ 1000000 by decide), sz (show 0 + 1 + 1 ≤ 1000000 by decide), q_lok, q_t1, q_t2, q_t3, q_t4, q_blt, q_blt1, q_blt2, q_eqi, q_cat, q_slc, q_nop, q_prt, q_intD, s1, ecl, e4, e2, n1, s2, e3]
def fur (ws : List (List Nat)) (gs : List (List Nat)) (x most : Nat) (ok : Nat → Bool) : List (List (List Nat)) := (if gs.length < most then [gs ++ [[x]]] else []) ++ ((List.range gs.length).filter ok).map fun p => wm gs p x
def gL (W : List (List (List Nat))) : D := .list (W.map bN)
theorem q_appW {j : Nat} {tf : Bool} {es : E} {δ : Sl} {W : List (List (List Nat))} {gs : List (List Nat)} (h1 : slotD δ j = .ok (gL W)) (h2 : evl es δ = .ok [bN gs]) (h : W.length < 1000000) : sev (.mu .app tf (.sl j) es) δ = .nx (δ.set j (some (gL (W ++ [gs])))) := by
  rw [q_appG (l := W.map bN) (d := bN gs) h1 h2 (by rw [List.length_map]; exact h)]
  unfold gL
  rw [List.map_append]
  rfl
theorem f_further {ws gs : List (List Nat)} {k x most : Nat} (hk : k ≤ 1000) (hw : Lk k ws) (hx : x < ws.length) (hl : gs.length ≤ 1000) (hg : ∀ g ∈ gs, g.length ≤ 1000 ∧ ∀ o ∈ g, o < ws.length) :
    ∃ ok : Nat → Bool, Ffurther_groups [bN ws, bN gs, .int (x : Int), .int (most : Int)] = .ok (gL (fur ws gs x most ok)) ∧ ∀ p, p < gs.length → (ok p = true ↔ Fit ws (gs.getD p []) x) := by
  classical
  refine ⟨fun p => decide (Fit ws (gs.getD p []) x), F_rt (s := Tfurther_groups) (δ := [some (bN ws), some (bN gs), some (.int (x : Int)), some (.int (most : Int)), none, none]) rfl rfl ?_, fun p hp => decide_eq_true_iff⟩
  unfold Tfurther_groups
  refine sq (δ1 := [some (bN ws), some (bN gs), some (.int (x : Int)), some (.int (most : Int)), some (gL []), none]) (by simp only [List.set_cons_succ, List.set_cons_zero, q_sasg, q_spar, q_sret, q_sretS, q_sife, q_snil, q_tn, q_tr, q_lst, q_tup, q_call, q_cons, q_nil, q_cI, q_ari, q_ix, q_sl, q_s0, q_s1, q_ki, q_kn, q_kb, q_ks, q_neg, q_negD, q_ci, q_cb, q_cs, q_cn, if_true, q_ok, q_ii, q_or, q_and, q_one, q_not, q_cmp, q_eq, q_ne, q_lt, q_le, q_gt, q_ge, q_is, q_isnot, q_isnN, q_isnI, q_isnL, q_isnT, q_notR, q_boolD, Bool.not_true, Bool.not_false, List.length_cons, List.length_nil, sz (show 0 ≤ 1000000 by decide), sz (show 0 + 1 ≤ 1000000 by decide), sz (show 0 + 1 + 1 ≤ 1000000 by decide), q_lok, q_t1, q_t2, q_t3, q_t4, q_blt, q_blt1, q_blt2, q_eqi]; rfl) ?_
  have ea : (decide ((gs.length : Int) < (most : Int))) = decide (gs.length < most) := by rw [decide_eq_decide]; omega
  have ec := bN_cat (a := gs) (b := [[x]]) (by rw [List.length_singleton]; omega)
  have e4 : PyData.list [PyData.list [.int (x : Int)]] = bN [[x]] := rfl
  refine sq (δ1 := [some (bN ws), some (bN gs), some (.int (x : Int)), some (.int (most : Int)), some (gL (if gs.length < most then [gs ++ [[x]]] else [])), none]) ?_ ?_
  · by_cases c : gs.length < most
    · rw [if_pos c]
      simp only [List.set_cons_succ, List.set_cons_zero, q_sasg, q_spar, q_sret, q_sretS, q_sife, q_snil, q_tn, q_tr, q_lst, q_tup, q_call, q_cons, q_nil, q_cI, q_ari, q_ix, q_sl, q_s0, q_s1, q_ki, q_kn, q_kb, q_ks, q_neg, q_negD, q_ci, q_cb, q_cs, q_cn, if_true, q_ok, q_ii, q_or, q_and, q_one, q_not, q_cmp, q_eq, q_ne, q_lt, q_le, q_gt, q_ge, q_is, q_isnot, q_isnN, q_isnI, q_isnL, q_isnT, q_notR, q_boolD, Bool.not_true, Bool.not_false, List.length_cons, List.length_nil, sz (show 0 ≤ 1000000 by decide), sz (show 0 + 1 ≤ 1000000 by decide), sz (show 0 + 1 + 1 ≤ 1000000 by decide), q_lok, q_t1, q_t2, q_t3, q_t4, q_blt, q_blt1, q_blt2, q_eqi, bN_len, ea, decide_eq_true c]
      refine sq (q_appW (W := []) (gs := gs ++ [[x]]) rfl ?_ (by decide)) rfl
      simp only [List.set_cons_succ, List.set_cons_zero, q_sasg, q_spar, q_sret, q_sretS, q_sife, q_snil, q_tn, q_tr, q_lst, q_tup, q_call, q_cons, q_nil, q_cI, q_ari, q_ix, q_sl, q_s0, q_s1, q_ki, q_kn, q_kb, q_ks, q_neg, q_negD, q_ci, q_cb, q_cs, q_cn, if_true, q_ok, q_ii, q_or, q_and, q_one, q_not, q_cmp, q_eq, q_ne, q_lt, q_le, q_gt, q_ge, q_is, q_isnot, q_isnN, q_isnI, q_isnL, q_isnT, q_notR, q_boolD, Bool.not_true, Bool.not_false, List.length_cons, List.length_nil, sz (show 0 ≤ 1000000 by decide), sz (show 0 + 1 ≤ 1000000 by decide), sz (show 0 + 1 + 1 ≤ 1000000 by decide), q_lok, q_t1, q_t2, q_t3, q_t4, q_blt, q_blt1, q_blt2, q_eqi, q_cat, e4, ec]
    · rw [if_neg c]
      simp only [List.set_cons_succ, List.set_cons_zero, q_sasg, q_spar, q_sret, q_sretS, q_sife, q_snil, q_tn, q_tr, q_lst, q_tup, q_call, q_cons, q_nil, q_cI, q_ari, q_ix, q_sl, q_s0, q_s1, q_ki, q_kn, q_kb, q_ks, q_neg, q_negD, q_ci, q_cb, q_cs, q_cn, if_true, q_ok, q_ii, q_or, q_and, q_one, q_not, q_cmp, q_eq, q_ne, q_lt, q_le, q_gt, q_ge, q_is, q_isnot, q_isnN, q_isnI, q_isnL, q_isnT, q_notR, q_boolD, Bool.not_true, Bool.not_false, List.length_cons, List.length_nil, sz (show 0 ≤ 1000000 by decide), sz (show 0 + 1 ≤ 1000000 by decide), sz (show 0 + 1 + 1 ≤ 1000000 by decide), q_lok, q_t1, q_t2, q_t3, q_t4, q_blt, q_blt1, q_blt2, q_eqi, bN_len, ea, decide_eq_false c]
  refine sq_rng gs.length (by simp only [List.set_cons_succ, List.set_cons_zero, q_sasg, q_spar, q_sret, q_sretS, q_sife, q_snil, q_tn, q_tr, q_lst, q_tup, q_call, q_cons, q_nil, q_cI, q_ari, q_ix, q_sl, q_s0, q_s1, q_ki, q_kn, q_kb, q_ks, q_neg, q_negD, q_ci, q_cb, q_cs, q_cn, if_true, q_ok, q_ii, q_or, q_and, q_one, q_not, q_cmp, q_eq, q_ne, q_lt, q_le, q_gt, q_ge, q_is, q_isnot, q_isnN, q_isnI, q_isnL, q_isnT, q_notR, q_boolD, Bool.not_true, Bool.not_false, List.length_cons, List.length_nil, sz (show 0 ≤ 1000000 by decide), sz (show 0 + 1 ≤ 1000000 by decide), sz (show 0 + 1 + 1 ≤ 1000000 by decide), q_lok, q_t1, q_t2, q_t3, q_t4, q_blt, q_blt1, q_blt2, q_eqi, bN_len]) (by omega) (by omega) (fun t δ => ∃ x5, δ = [some (bN ws), some (bN gs), some (.int (x : Int)), some (.int (most : Int)), some (gL ((if gs.length < most then [gs ++ [[x]]] else []) ++ ((List.range t).filter fun p => decide (Fit ws (gs.getD p []) x)).map fun p => wm gs p x)), x5]) ⟨none, by simp⟩ (fun p δ hp hI => ?_) (fun δ' hI => ?_)
  · obtain ⟨x5, rfl⟩ := hI
    have hp : p < gs.length := by omega
    have gm : gs.getD p [] ∈ gs := by rw [getD_in _ hp]; exact List.getElem_mem hp
    have a1 := bN_at hp
    have l1 : ((List.range p).filter fun p => decide (Fit ws (gs.getD p []) x)).length ≤ p := Nat.le_trans (List.length_filter_le _ _) (by rw [List.length_range]; omega)
    have l2 : (if gs.length < most then [gs ++ [[x]]] else []).length ≤ 1 := by split <;> simp
    rw [List.range_succ, List.filter_append, List.map_append, ← List.append_assoc]
    generalize hM : (if gs.length < most then [gs ++ [[x]]] else []) ++ ((List.range p).filter fun p => decide (Fit ws (gs.getD p []) x)).map (fun p => wm gs p x) = M
    have lM : M.length ≤ 1 + p := by
      rw [← hM, List.length_append, List.length_map]; omega
    rcases f_fits hk hw (hg _ gm).2 hx with ⟨ef, hf⟩ | ⟨ef, hf⟩
    · have em := f_member (x := x) hp (by omega) (fun g h => (hg g h).1)
      refine ⟨_, sq (δ1 := [some (bN ws), some (bN gs), some (.int (x : Int)), some (.int (most : Int)), some (gL (M ++ [wm gs p x])), some (.int (p : Int))]) ?_ rfl, some (.int (p : Int)), ?_⟩
      · simp only [List.set_cons_succ, List.set_cons_zero, q_sasg, q_spar, q_sret, q_sretS, q_sife, q_snil, q_tn, q_tr, q_lst, q_tup, q_call, q_cons, q_nil, q_cI, q_ari, q_ix, q_sl, q_s0, q_s1, q_ki, q_kn, q_kb, q_ks, q_neg, q_negD, q_ci, q_cb, q_cs, q_cn, if_true, q_ok, q_ii, q_or, q_and, q_one, q_not, q_cmp, q_eq, q_ne, q_lt, q_le, q_gt, q_ge, q_is, q_isnot, q_isnN, q_isnI, q_isnL, q_isnT, q_notR, q_boolD, Bool.not_true, Bool.not_false, List.length_cons, List.length_nil, sz (show 0 ≤ 1000000 by decide), sz (show 0 + 1 ≤ 1000000 by decide), sz (show 0 + 1 + 1 ≤ 1000000 by decide), q_lok, q_t1, q_t2, q_t3, q_t4, q_blt, q_blt1, q_blt2, q_eqi, a1, ef]
        refine sq (q_appW (W := M) (gs := wm gs p x) rfl ?_ (by omega)) rfl
        simp only [List.set_cons_succ, List.set_cons_zero, q_sasg, q_spar, q_sret, q_sretS, q_sife, q_snil, q_tn, q_tr, q_lst, q_tup, q_call, q_cons, q_nil, q_cI, q_ari, q_ix, q_sl, q_s0, q_s1, q_ki, q_kn, q_kb, q_ks, q_neg, q_negD, q_ci, q_cb, q_cs, q_cn, if_true, q_ok, q_ii, q_or, q_and, q_one, q_not, q_cmp, q_eq, q_ne, q_lt, q_le, q_gt, q_ge, q_is, q_isnot, q_isnN, q_isnI, q_isnL, q_isnT, q_notR, q_boolD, Bool.not_true, Bool.not_false, List.length_cons, List.length_nil, sz (show 0 ≤ 1000000 by decide), sz (show 0 + 1 ≤ 1000000 by decide), sz (show 0 + 1 + 1 ≤ 1000000 by decide), q_lok, q_t1, q_t2, q_t3, q_t4, q_blt, q_blt1, q_blt2, q_eqi, em]
      · have e5 : ([p].filter fun p => decide (Fit ws (gs.getD p []) x)) = [p] := by simp only [List.filter_cons, List.filter_nil, decide_eq_true hf, if_true]
        rw [e5]; rfl
    · refine ⟨_, sq (δ1 := [some (bN ws), some (bN gs), some (.int (x : Int)), some (.int (most : Int)), some (gL M), some (.int (p : Int))]) (by simp only [List.set_cons_succ, List.set_cons_zero, q_sasg, q_spar, q_sret, q_sretS, q_sife, q_snil, q_tn, q_tr, q_lst, q_tup, q_call, q_cons, q_nil, q_cI, q_ari, q_ix, q_sl, q_s0, q_s1, q_ki, q_kn, q_kb, q_ks, q_neg, q_negD, q_ci, q_cb, q_cs, q_cn, if_true, q_ok, q_ii, q_or, q_and, q_one, q_not, q_cmp, q_eq, q_ne, q_lt, q_le, q_gt, q_ge, q_is, q_isnot, q_isnN, q_isnI, q_isnL, q_isnT, q_notR, q_boolD, Bool.not_true, Bool.not_false, List.length_cons, List.length_nil, sz (show 0 ≤ 1000000 by decide), sz (show 0 + 1 ≤ 1000000 by decide), sz (show 0 + 1 + 1 ≤ 1000000 by decide), q_lok, q_t1, q_t2, q_t3, q_t4, q_blt, q_blt1, q_blt2, q_eqi, a1, ef]) rfl, some (.int (p : Int)), ?_⟩
      have e5 : ([p].filter fun p => decide (Fit ws (gs.getD p []) x)) = [] := by simp only [List.filter_cons, List.filter_nil, decide_eq_false hf, Bool.false_eq_true, if_false]
      rw [e5, List.map_nil, List.append_nil]
  · obtain ⟨x5, rfl⟩ := hI
    rw [show ((gs.length : Int)).toNat = gs.length by omega]
    exact sqx rfl
end VS
set_option Elab.async false
set_option linter.all false
set_option maxRecDepth 100000
namespace VS
open PySem PySem.Spec L2
open PyProof.Rows hiding St
/-! ### a loop with a measure -/
theorem whL_two {c : Sl → R Bool} {f : Sl → Out} (I : Nat → Sl → Prop) (J : Sl → Prop) (G : D → Prop)
    (h : ∀ m δ, I m δ → (c δ = .ok false ∧ J δ) ∨ (c δ = .ok true ∧ ((∃ d, f δ = .rt d ∧ G d) ∨ ∃ δ' m', f δ = .nx δ' ∧ m' < m ∧ I m' δ'))) :
    ∀ (fuel m : Nat) (δ : Sl), m < fuel → I m δ → (∃ d, whL c f fuel δ = .rt d ∧ G d) ∨ ∃ δ', whL c f fuel δ = .nx δ' ∧ J δ'
  | 0, m, δ, hm, _ => by omega
  | fuel + 1, m, δ, hm, hI => by
    show (∃ d, lft δ (c δ) (fun b => match b with
      | true => (f δ).thn (whL c f fuel)
      | false => .nx δ) = .rt d ∧ G d) ∨ ∃ δ', lft δ (c δ) (fun b => match b with
      | true => (f δ).thn (whL c f fuel)
      | false => .nx δ) = .nx δ' ∧ J δ'
    rcases h m δ hI with ⟨e, j⟩ | ⟨e, h2⟩
    · rw [e, q_lok]
      exact .inr ⟨δ, rfl, j⟩
    · rw [e, q_lok]
      rcases h2 with ⟨d, e2, g⟩ | ⟨δ', m', e2, lt, hI2⟩
      · exact .inl ⟨d, by show (f δ).thn _ = _; rw [e2]; rfl, g⟩
      · show (∃ d, (f δ).thn (whL c f fuel) = .rt d ∧ G d) ∨ ∃ δ', (f δ).thn (whL c f fuel) = .nx δ' ∧ J δ'
        rw [e2, q_tn]
        exact whL_two I J G h fuel m' δ' (by omega) hI2
/-! ### the search through all groups -/
def gsum (gs : List (List Nat)) : Nat := (gs.map List.length).sum
structure Og (ws : List (List Nat)) (gs : List (List Nat)) (most : Nat) : Prop where
  perm : gs.flatten.Perm (List.range (gsum gs))
  le : gsum gs ≤ ws.length
  ap : ∀ g ∈ gs, ∀ i j, i ∈ g → j ∈ g → i < j → Apt (ws.getD i []) (ws.getD j [])
  ne : ∀ g ∈ gs, g ≠ []
  m : gs.length ≤ most
theorem gsum_nil : gsum [] = 0 := rfl
theorem gsum_cons (g : List Nat) (gs : List (List Nat)) : gsum (g :: gs) = g.length + gsum gs := rfl
theorem gsum_app (a b : List (List Nat)) : gsum (a ++ b) = gsum a + gsum b := by
  unfold gsum
  rw [List.map_append, List.sum_append]
theorem gsum_flat : ∀ gs : List (List Nat), gs.flatten.length = gsum gs
  | [] => rfl
  | g :: gs => by rw [List.flatten_cons, List.length_append, gsum_flat gs, gsum_cons]
theorem Og.len {ws gs : List (List Nat)} {most : Nat} (h : Og ws gs most) : gs.length ≤ gsum gs := by
  have key : ∀ gs : List (List Nat), (∀ g ∈ gs, g ≠ []) → gs.length ≤ gsum gs := by
    intro gs
    induction gs with
    | nil => intro _; exact Nat.le_refl _
    | cons g gs ih =>
      intro hn
      have h1 := ih fun g hg => hn g (List.mem_cons_of_mem _ hg)
      have h2 := List.length_pos_iff.mpr (hn g List.mem_cons_self)
      rw [List.length_cons, gsum_cons]
      omega
  exact key gs h.ne
theorem Og.mem {ws gs : List (List Nat)} {most : Nat} (h : Og ws gs most) {g : List Nat} (hg : g ∈ gs) {o : Nat} (ho : o ∈ g) : o < gsum gs := by
  have : o ∈ gs.flatten := List.mem_flatten.mpr ⟨g, hg, ho⟩
  exact List.mem_range.mp (h.perm.mem_iff.mp this)
theorem Og.glen {ws gs : List (List Nat)} {most : Nat} {g : List Nat} (hg : g ∈ gs) : g.length ≤ gsum gs := by
  have key : ∀ gs : List (List Nat), g ∈ gs → g.length ≤ gsum gs := by
    intro gs
    induction gs with
    | nil => intro h; cases h
    | cons x gs ih =>
      intro h
      rw [gsum_cons]
      rcases List.mem_cons.mp h with rfl | h
      · omega
      · have := ih h; omega
  exact key gs hg
theorem Og.nil {ws : List (List Nat)} {most : Nat} : Og ws [] most := ⟨.refl _, Nat.zero_le _, by simp, by simp, Nat.zero_le _⟩
theorem range_app1 {l : List Nat} {s : Nat} (h : l.Perm (List.range s)) : (l ++ [s]).Perm (List.range (s + 1)) := by
  rw [List.range_succ]
  exact h.append_right _
theorem Og.new {ws gs : List (List Nat)} {most : Nat} (h : Og ws gs most) (h1 : gsum gs < ws.length) (h2 : gs.length < most) : Og ws (gs ++ [[gsum gs]]) most ∧ gsum (gs ++ [[gsum gs]]) = gsum gs + 1 := by
  have e : gsum (gs ++ [[gsum gs]]) = gsum gs + 1 := by rw [gsum_app]; rfl
  refine ⟨⟨?_, by omega, fun g hg i j hi hj hij => ?_, fun g hg => ?_, by rw [List.length_append, List.length_singleton]; omega⟩, e⟩
  · rw [e, List.flatten_append]
    exact range_app1 h.perm
  · rcases List.mem_append.mp hg with hg | hg
    · exact h.ap g hg i j hi hj hij
    · rw [List.mem_singleton.mp hg] at hi hj
      have := List.mem_singleton.mp hi
      have := List.mem_singleton.mp hj
      omega
  · rcases List.mem_append.mp hg with hg | hg
    · exact h.ne g hg
    · rw [List.mem_singleton.mp hg]; simp
theorem set_flat {gs : List (List Nat)} {p : Nat} (x : Nat) (hp : p < gs.length) : (wm gs p x).flatten.Perm (gs.flatten ++ [x]) ∧ gsum (wm gs p x) = gsum gs + 1 := by
  have key : ∀ (gs : List (List Nat)) (p : Nat), p < gs.length → (gs.set p (gs.getD p [] ++ [x])).flatten.Perm (gs.flatten ++ [x]) := by
    intro gs
    induction gs with
    | nil => intro p hp; cases hp
    | cons g gs ih =>
      intro p hp
      cases p with
      | zero =>
        show ((g ++ [x]) ++ gs.flatten).Perm ((g ++ gs.flatten) ++ [x])
        rw [List.append_assoc, List.append_assoc]
        exact List.Perm.append_left _ List.perm_append_comm
      | succ p =>
        show (g ++ (gs.set p (gs.getD p [] ++ [x])).flatten).Perm ((g ++ gs.flatten) ++ [x])
        rw [List.append_assoc]
        exact List.Perm.append_left _ (ih p (by simpa using hp))
  have h1 := key gs p hp
  refine ⟨h1, ?_⟩
  have := h1.length_eq
  rw [List.length_append, List.length_singleton, gsum_flat, gsum_flat] at this
  exact this
theorem Og.put {ws gs : List (List Nat)} {most p : Nat} (h : Og ws gs most) (h1 : gsum gs < ws.length) (hp : p < gs.length) (hf : Fit ws (gs.getD p []) (gsum gs)) : Og ws (wm gs p (gsum gs)) most ∧ gsum (wm gs p (gsum gs)) = gsum gs + 1 := by
  obtain ⟨f1, f2⟩ := set_flat (gsum gs) hp
  have gm : gs.getD p [] ∈ gs := by rw [getD_in _ hp]; exact List.getElem_mem hp
  refine ⟨⟨?_, by omega, fun g hg i j hi hj hij => ?_, fun g hg => ?_, by unfold wm; rw [List.length_set]; exact h.m⟩, f2⟩
  · rw [f2]
    exact f1.trans (range_app1 h.perm)
  · rcases List.mem_or_eq_of_mem_set hg with hg | rfl
    · exact h.ap g hg i j hi hj hij
    · rcases List.mem_append.mp hi with hi | hi <;> rcases List.mem_append.mp hj with hj | hj
      · exact h.ap _ gm i j hi hj hij
      · rw [List.mem_singleton.mp hj]; exact hf i hi
      · have := h.mem gm hj
        have := List.mem_singleton.mp hi
        omega
      · have := List.mem_singleton.mp hi
        have := List.mem_singleton.mp hj
        omega
  · rcases List.mem_or_eq_of_mem_set hg with hg | rfl
    · exact h.ne g hg
    · simp
def mea (n : Nat) (W : List (List (List Nat))) : Nat := (W.map fun gs => 10 ^ (n - gsum gs)).sum
theorem mea_app (n : Nat) (a b : List (List (List Nat))) : mea n (a ++ b) = mea n a + mea n b := by
  unfold mea
  rw [List.map_append, List.sum_append]
theorem mea_le {n s : Nat} : ∀ {W : List (List (List Nat))}, (∀ gs ∈ W, gsum gs = s) → mea n W = W.length * 10 ^ (n - s)
  | [], _ => by simp [mea]
  | gs :: W, h => by
    have := mea_le (n := n) (W := W) fun g hg => h g (List.mem_cons_of_mem _ hg)
    show 10 ^ (n - gsum gs) + mea n W = _
    rw [this, h gs List.mem_cons_self, List.length_cons, Nat.add_mul, Nat.one_mul, Nat.add_comm]
/-- the next states -/
theorem fur_ok {ws gs : List (List Nat)} {most : Nat} {ok : Nat → Bool} (h : Og ws gs most) (h1 : gsum gs < ws.length) (hok : ∀ p, p < gs.length → (ok p = true ↔ Fit ws (gs.getD p []) (gsum gs))) :
    ∀ g ∈ fur ws gs (gsum gs) most ok, Og ws g most ∧ gsum g = gsum gs + 1 := by
  intro g hg
  unfold fur at hg
  rcases List.mem_append.mp hg with hg | hg
  · by_cases c : gs.length < most
    · rw [if_pos c] at hg
      rw [List.mem_singleton.mp hg]
      exact h.new h1 c
    · rw [if_neg c] at hg; cases hg
  · obtain ⟨p, hp, rfl⟩ := List.mem_map.mp hg
    obtain ⟨hp, o⟩ := List.mem_filter.mp hp
    have hp := List.mem_range.mp hp
    exact h.put h1 hp ((hok p hp).mp o)
theorem fur_len {ws gs : List (List Nat)} {x most : Nat} {ok : Nat → Bool} : (fur ws gs x most ok).length ≤ gs.length + 1 := by
  unfold fur
  rw [List.length_append, List.length_map]
  have := List.length_filter_le ok (List.range gs.length)
  rw [List.length_range] at this
  split <;> simp <;> omega
/-- what lets the search not fail -/
def Goes (ws : List (List Nat)) (most : Nat) : Prop := ws.length ≤ most ∨ (1 ≤ most ∧ AllAp ws)
theorem fur_goes {ws gs : List (List Nat)} {most : Nat} {ok : Nat → Bool} (h : Og ws gs most) (h1 : gsum gs < ws.length) (hok : ∀ p, p < gs.length → (ok p = true ↔ Fit ws (gs.getD p []) (gsum gs))) (hA : Goes ws most) : fur ws gs (gsum gs) most ok ≠ [] := by
  unfold fur
  by_cases c : gs.length < most
  · rw [if_pos c]; simp
  · rcases hA with hA | ⟨h2, hA⟩
    · have := h.len; omega
    · have hp : 0 < gs.length := by omega
      have gm : gs.getD 0 [] ∈ gs := by rw [getD_in _ hp]; exact List.getElem_mem hp
      have : ok 0 = true := (hok 0 hp).mpr fun o ho => hA o (gsum gs) (h.mem gm ho) h1
      intro e
      have e2 := (List.append_eq_nil_iff.mp e).2
      have e3 := List.map_eq_nil_iff.mp e2
      exact List.filter_eq_nil_iff.mp e3 0 (List.mem_range.mpr hp) this
def resN : Option (List (List Nat)) → D
  | none => .none
  | some gs => bN gs
theorem last_some {α : Type} {l : List α} (h : l ≠ []) : ∃ y, l[l.length - 1]? = some y ∧ l = l.dropLast ++ [y] := by
  have hp := List.length_pos_iff.mpr h
  refine ⟨l[l.length - 1], by simp, ?_⟩
  exact last_split (by simp)
theorem f_into {ws : List (List Nat)} {k : Nat} (most : Nat) (hk : k ≤ 1000) (hw : Lk k ws) (hn : ws.length ≤ 8) :
    ∃ r : Option (List (List Nat)), Fgroups_into [bN ws, .int (most : Int)] = .ok (resN r) ∧ (∀ gs, r = some gs → Og ws gs most ∧ gsum gs = ws.length) ∧ (Goes ws most → r ≠ none) := by
  generalize hB : (S.seq (.popL false 3 2)
(.seq (.asg (.one 4) (.blt .sum (.cons (.comp [("group", 5)] (.one 5) (.sl 3) .nop (.blt .len (.cons (.sl 5) .nil))) .nil)))
(.seq (.ife (.cmp .Eq (.sl 4) (.blt .len (.cons (.sl 0) .nil)))
(.seq (.ret (.sl 3))
.nil)
.nil)
(.seq (.ext false (.sl 2) (.call "further_groups" Ffurther_groups (.L (.L .S)) (.cons (.sl 0) (.cons (.sl 3) (.cons (.cI (.sl 4)) (.cons (.cI (.sl 1)) .nil))))))
.nil)))) = B
  let P := fun (W : List (List (List Nat))) => (∀ (i : Nat) gs, W[i]? = some gs → Og ws gs most ∧ i ≤ 9 * gsum gs) ∧ (Goes ws most → W ≠ [])
  have key := whL_two (c := fun δ => ev (.cmp .Gt (.blt .len (.cons (.sl 2) .nil)) (.k (.int 0))) δ >>= boolD) (f := sev B)
    (I := fun m δ => ∃ W x3 x4 x5, δ = [some (bN ws), some (.int (most : Int)), some (gL W), x3, x4, x5] ∧ m = mea ws.length W ∧ P W)
    (J := fun δ => (∃ W x3 x4 x5, δ = [some (bN ws), some (.int (most : Int)), some (gL W), x3, x4, x5]) ∧ ¬ Goes ws most) (G := fun d => ∃ gs, d = bN gs ∧ Og ws gs most ∧ gsum gs = ws.length) (fun m δ hI => by
      obtain ⟨W, x3, x4, x5, rfl, rfl, hP, hG⟩ := hI
      have el : blt1 .len (gL W) = .ok (.int (W.length : Int)) := by unfold gL; rw [q_lenL, List.length_map]
      by_cases hW : W = []
      · subst hW
        refine .inl ⟨?_, ⟨_, _, _, _, rfl⟩, fun z => hG z rfl⟩
        simp only [List.set_cons_succ, List.set_cons_zero, q_sasg, q_spar, q_sret, q_sretS, q_sife, q_snil, q_tn, q_tr, q_lst, q_tup, q_call, q_cons, q_nil, q_cI, q_ari, q_ix, q_sl, q_s0, q_s1, q_ki, q_kn, q_kb, q_ks, q_neg, q_negD, q_ci, q_cb, q_cs, q_cn, if_true, q_ok, q_ii, q_or, q_and, q_one, q_not, q_cmp, q_eq, q_ne, q_lt, q_le, q_gt, q_ge, q_is, q_isnot, q_isnN, q_isnI, q_isnL, q_isnT, q_notR, q_boolD, Bool.not_true, Bool.not_false, List.length_cons, List.length_nil, sz (show 0 ≤ 1000000 by decide), sz (show 0 + 1 ≤ 1000000 by decide), sz (show 0 + 1 + 1 ≤ 1000000 by decide), q_lok, q_t1, q_t2, q_t3, q_t4, q_blt, q_blt1, q_blt2, q_eqi, el]
        rfl
      · have hpos := List.length_pos_iff.mpr hW
        obtain ⟨gs, hl, hs⟩ := last_some hW
        obtain ⟨og, hi⟩ := hP _ _ hl
        refine .inr ⟨?_, ?_⟩
        · simp only [List.set_cons_succ, List.set_cons_zero, q_sasg, q_spar, q_sret, q_sretS, q_sife, q_snil, q_tn, q_tr, q_lst, q_tup, q_call, q_cons, q_nil, q_cI, q_ari, q_ix, q_sl, q_s0, q_s1, q_ki, q_kn, q_kb, q_ks, q_neg, q_negD, q_ci, q_cb, q_cs, q_cn, if_true, q_ok, q_ii, q_or, q_and, q_one, q_not, q_cmp, q_eq, q_ne, q_lt, q_le, q_gt, q_ge, q_is, q_isnot, q_isnN, q_isnI, q_isnL, q_isnT, q_notR, q_boolD, Bool.not_true, Bool.not_false, List.length_cons, List.length_nil, sz (show 0 ≤ 1000000 by decide), sz (show 0 + 1 ≤ 1000000 by decide), sz (show 0 + 1 + 1 ≤ 1000000 by decide), q_lok, q_t1, q_t2, q_t3, q_t4, q_blt, q_blt1, q_blt2, q_eqi, el, show decide ((0 : Int) < (W.length : Int)) = true from decide_eq_true (by omega)]
        · have lw : W.length = W.dropLast.length + 1 := by
            conv => lhs; rw [hs]
            rw [List.length_append, List.length_singleton]
          generalize hV : W.dropLast = V at *
          subst hs
          have og_le := og.le
          have st1 : sev (.popL false 3 2) [some (bN ws), some (.int (most : Int)), some (gL (V ++ [gs])), x3, x4, x5] = .nx [some (bN ws), some (.int (most : Int)), some (gL V), some (bN gs), x4, x5] := by
            show (match PyData.list ((V ++ [gs]).map bN) with
              | .list xs => match xs[xs.length - 1]? with
                | some y => if false = true → imm y = true then Out.nx (([some (bN ws), some (.int (most : Int)), some (gL (V ++ [gs])), x3, x4, x5].set 3 (some y)).set 2 (some (.list xs.dropLast))) else .no
                | none => .no
              | _ => .no) = _
            have e1 : ((V ++ [gs]).map bN)[((V ++ [gs]).map bN).length - 1]? = some (bN gs) := by
              rw [List.length_map, List.getElem?_map, hl]; rfl
            have e2 : ((V ++ [gs]).map bN).dropLast = V.map bN := by rw [List.map_append]; simp
            simp only [e1, e2]
            rfl
          have es : ev (.blt .sum (.cons (.comp [("group", 5)] (.one 5) (.sl 3) .nop (.blt .len (.cons (.sl 5) .nil))) .nil)) [some (bN ws), some (.int (most : Int)), some (gL V), some (bN gs), x4, x5] = .ok (.int (gsum gs : Int)) := by
            have e1 : ev (.comp [("group", 5)] (.one 5) (.sl 3) .nop (.blt .len (.cons (.sl 5) .nil))) [some (bN ws), some (.int (most : Int)), some (gL V), some (bN gs), x4, x5] = .ok (.list ((gs.map List.length).map fun (i : Nat) => PyData.int (i : Int))) := by
              rw [ev_comp gs iN (fun g => .int (g.length : Int)) rfl fun g hg => ⟨_, rfl, ?_⟩]
              · rw [List.map_map]; rfl
              · simp only [q_w1, q_w0, List.map_cons, List.map_nil, List.set_cons_succ, List.set_cons_zero, q_sasg, q_spar, q_sret, q_sretS, q_sife, q_snil, q_tn, q_tr, q_lst, q_tup, q_call, q_cons, q_nil, q_cI, q_ari, q_ix, q_sl, q_s0, q_s1, q_ki, q_kn, q_kb, q_ks, q_neg, q_negD, q_ci, q_cb, q_cs, q_cn, if_true, q_ok, q_ii, q_or, q_and, q_one, q_not, q_cmp, q_eq, q_ne, q_lt, q_le, q_gt, q_ge, q_is, q_isnot, q_isnN, q_isnI, q_isnL, q_isnT, q_notR, q_boolD, Bool.not_true, Bool.not_false, List.length_cons, List.length_nil, sz (show 0 ≤ 1000000 by decide), sz (show 0 + 1 ≤ 1000000 by decide), sz (show 0 + 1 + 1 ≤ 1000000 by decide), q_lok, q_t1, q_t2, q_t3, q_t4, q_blt, q_blt1, q_blt2, q_eqi, iN_len]
            simp only [q_blt, q_cons, q_nil, e1, q_ok, q_blt1, blt_sumN]
            rfl
          have st2 : sev (.asg (.one 4) (.blt .sum (.cons (.comp [("group", 5)] (.one 5) (.sl 3) .nop (.blt .len (.cons (.sl 5) .nil))) .nil))) [some (bN ws), some (.int (most : Int)), some (gL V), some (bN gs), x4, x5] = .nx [some (bN ws), some (.int (most : Int)), some (gL V), some (bN gs), some (.int (gsum gs : Int)), x5] := by
            rw [q_sasg, es]; rfl
          rw [← hB]
          by_cases c : gsum gs = ws.length
          · refine .inl ⟨bN gs, sq st1 (sq st2 (sqx ?_)), gs, rfl, og, c⟩
            simp only [List.set_cons_succ, List.set_cons_zero, q_sasg, q_spar, q_sret, q_sretS, q_sife, q_snil, q_tn, q_tr, q_lst, q_tup, q_call, q_cons, q_nil, q_cI, q_ari, q_ix, q_sl, q_s0, q_s1, q_ki, q_kn, q_kb, q_ks, q_neg, q_negD, q_ci, q_cb, q_cs, q_cn, if_true, q_ok, q_ii, q_or, q_and, q_one, q_not, q_cmp, q_eq, q_ne, q_lt, q_le, q_gt, q_ge, q_is, q_isnot, q_isnN, q_isnI, q_isnL, q_isnT, q_notR, q_boolD, Bool.not_true, Bool.not_false, List.length_cons, List.length_nil, sz (show 0 ≤ 1000000 by decide), sz (show 0 + 1 ≤ 1000000 by decide), sz (show 0 + 1 + 1 ≤ 1000000 by decide), q_lok, q_t1, q_t2, q_t3, q_t4, q_blt, q_blt1, q_blt2, q_eqi, bN_len, eq_cast, decide_eq_true c]
            exact sqx rfl
          · have hlt : gsum gs < ws.length := by omega
            have gl := og.len
            obtain ⟨ok, ef, hok⟩ := f_further (ws := ws) (gs := gs) (x := gsum gs) (most := most) hk hw hlt (by omega) (fun g hg => ⟨by have := Og.glen (ws := ws) (most := most) hg; omega, fun o ho => by have := og.mem hg ho; omega⟩)
            have fo := fur_ok og hlt hok
            have fl := fur_len (ws := ws) (gs := gs) (x := gsum gs) (most := most) (ok := ok)
            have fg : Goes ws most → fur ws gs (gsum gs) most ok ≠ [] := fun z => fur_goes og hlt hok z
            generalize fur ws gs (gsum gs) most ok = N at *
            refine .inr ⟨[some (bN ws), some (.int (most : Int)), some (gL (V ++ N)), some (bN gs), some (.int (gsum gs : Int)), x5], _, sq st1 (sq st2 (sq (δ1 := [some (bN ws), some (.int (most : Int)), some (gL V), some (bN gs), some (.int (gsum gs : Int)), x5]) (by simp only [List.set_cons_succ, List.set_cons_zero, q_sasg, q_spar, q_sret, q_sretS, q_sife, q_snil, q_tn, q_tr, q_lst, q_tup, q_call, q_cons, q_nil, q_cI, q_ari, q_ix, q_sl, q_s0, q_s1, q_ki, q_kn, q_kb, q_ks, q_neg, q_negD, q_ci, q_cb, q_cs, q_cn, if_true, q_ok, q_ii, q_or, q_and, q_one, q_not, q_cmp, q_eq, q_ne, q_lt, q_le, q_gt, q_ge, q_is, q_isnot, q_isnN, q_isnI, q_isnL, q_isnT, q_notR, q_boolD, Bool.not_true, Bool.not_false, List.length_cons, List.length_nil, sz (show 0 ≤ 1000000 by decide), sz (show 0 + 1 ≤ 1000000 by decide), sz (show 0 + 1 + 1 ≤ 1000000 by decide), q_lok, q_t1, q_t2, q_t3, q_t4, q_blt, q_blt1, q_blt2, q_eqi, bN_len, eq_cast, decide_eq_false c]) (sq ?_ rfl))), ?_, V ++ N, _, _, _, rfl, rfl, fun i g hg => ?_, fun z => ?_⟩
            · show (lft _ (nox (R.ok ([] : List D))) fun ks => lft _ (R.ok (gL V)) fun d => lft _ (nox (modG false .ok ks d)) fun _ => lft _ (ev (.call "further_groups" Ffurther_groups (.L (.L .S)) (.cons (.sl 0) (.cons (.sl 3) (.cons (.cI (.sl 4)) (.cons (.cI (.sl 1)) .nil))))) [some (bN ws), some (.int (most : Int)), some (gL V), some (bN gs), some (.int (gsum gs : Int)), x5]) fun y => lft _ (nox (modG false (extD y) ks d)) fun d' => .nx ([some (bN ws), some (.int (most : Int)), some (gL V), some (bN gs), some (.int (gsum gs : Int)), x5].set 2 (some d'))) = _
              have ee : ev (.call "further_groups" Ffurther_groups (.L (.L .S)) (.cons (.sl 0) (.cons (.sl 3) (.cons (.cI (.sl 4)) (.cons (.cI (.sl 1)) .nil))))) [some (bN ws), some (.int (most : Int)), some (gL V), some (bN gs), some (.int (gsum gs : Int)), x5] = .ok (gL N) := by
                simp only [List.set_cons_succ, List.set_cons_zero, q_sasg, q_spar, q_sret, q_sretS, q_sife, q_snil, q_tn, q_tr, q_lst, q_tup, q_call, q_cons, q_nil, q_cI, q_ari, q_ix, q_sl, q_s0, q_s1, q_ki, q_kn, q_kb, q_ks, q_neg, q_negD, q_ci, q_cb, q_cs, q_cn, if_true, q_ok, q_ii, q_or, q_and, q_one, q_not, q_cmp, q_eq, q_ne, q_lt, q_le, q_gt, q_ge, q_is, q_isnot, q_isnN, q_isnI, q_isnL, q_isnT, q_notR, q_boolD, Bool.not_true, Bool.not_false, List.length_cons, List.length_nil, sz (show 0 ≤ 1000000 by decide), sz (show 0 + 1 ≤ 1000000 by decide), sz (show 0 + 1 + 1 ≤ 1000000 by decide), q_lok, q_t1, q_t2, q_t3, q_t4, q_blt, q_blt1, q_blt2, q_eqi, ef]
              have em : modG false (extD (gL N)) [] (gL V) = .ok (gL (V ++ N)) := by
                unfold gL
                rw [q_modL]
                show ((if (V.map bN).length + (N.map bN).length ≤ sizeLine then R.ok (V.map bN ++ N.map bN) else .no) >>= fun ys => R.ok (PyData.list ys)) = _
                rw [if_pos (sz (by rw [List.length_map, List.length_map]; omega)), q_ok, List.map_append]
              have e0 : modG false .ok [] (gL V) = .ok (gL V) := by
                unfold gL
                rw [q_modL, q_ok]
              rw [q_nox, q_lok, q_lok, e0, q_nox, q_lok, ee, q_lok, em, q_nox, q_lok]
              rfl
            · rw [mea_app, mea_app, mea_le (s := gsum gs + 1) fun g hg => (fo g hg).2]
              have : mea ws.length [gs] = 10 ^ (ws.length - gsum gs) := by simp [mea]
              rw [this, show ws.length - gsum gs = (ws.length - (gsum gs + 1)) + 1 by omega, Nat.pow_succ]
              have p0 : 0 < 10 ^ (ws.length - (gsum gs + 1)) := Nat.pow_pos (by decide)
              have : N.length * 10 ^ (ws.length - (gsum gs + 1)) ≤ 9 * 10 ^ (ws.length - (gsum gs + 1)) := Nat.mul_le_mul_right _ (by omega)
              omega
            · by_cases hiV : i < V.length
              · rw [List.getElem?_append_left hiV] at hg
                refine hP i g ?_
                rw [List.getElem?_append_left hiV]; exact hg
              · rw [List.getElem?_append_right (by omega)] at hg
                have hm := fo g (List.mem_of_getElem? hg)
                have hiN : i - V.length < N.length := (List.getElem?_eq_some_iff.mp hg).1
                refine ⟨hm.1, ?_⟩
                rw [hm.2]
                rw [List.length_append, List.length_singleton, Nat.add_sub_cancel] at hi
                omega
            · intro e
              exact fg z (List.append_eq_nil_iff.mp e).2)
  have h0 := key 1000000000 (mea ws.length [[]]) [some (bN ws), some (.int (most : Int)), some (gL [[]]), none, none, none] (by
    show 10 ^ (ws.length - 0) + 0 < 1000000000
    have : 10 ^ (ws.length - 0) ≤ 10 ^ 8 := Nat.pow_le_pow_right (by decide) (by omega)
    omega) ⟨[[]], _, _, _, rfl, rfl, (show P [[]] from ⟨fun i gs hg => (by
      cases i with
      | zero => cases hg; exact ⟨Og.nil, Nat.zero_le _⟩
      | succ i => cases hg), fun _ => by simp⟩)⟩
  have start : sev (.asg (.one 2) (.lst (.cons (.lst .nil) .nil))) [some (bN ws), some (.int (most : Int)), none, none, none, none] = .nx [some (bN ws), some (.int (most : Int)), some (gL [[]]), none, none, none] := by
    simp only [List.set_cons_succ, List.set_cons_zero, q_sasg, q_spar, q_sret, q_sretS, q_sife, q_snil, q_tn, q_tr, q_lst, q_tup, q_call, q_cons, q_nil, q_cI, q_ari, q_ix, q_sl, q_s0, q_s1, q_ki, q_kn, q_kb, q_ks, q_neg, q_negD, q_ci, q_cb, q_cs, q_cn, if_true, q_ok, q_ii, q_or, q_and, q_one, q_not, q_cmp, q_eq, q_ne, q_lt, q_le, q_gt, q_ge, q_is, q_isnot, q_isnN, q_isnI, q_isnL, q_isnT, q_notR, q_boolD, Bool.not_true, Bool.not_false, List.length_cons, List.length_nil, sz (show 0 ≤ 1000000 by decide), sz (show 0 + 1 ≤ 1000000 by decide), sz (show 0 + 1 + 1 ≤ 1000000 by decide), q_lok, q_t1, q_t2, q_t3, q_t4, q_blt, q_blt1, q_blt2, q_eqi]
    rfl
  rcases h0 with ⟨d, e, gs, rfl, og, hs⟩ | ⟨δ', e, ⟨W, x3, x4, x5, rfl⟩, hG⟩
  · refine ⟨some gs, F_rt (s := Tgroups_into) (δ := [some (bN ws), some (.int (most : Int)), none, none, none, none]) rfl rfl ?_, fun g hg => (by cases hg; exact ⟨og, hs⟩), fun _ => nofun⟩
    unfold Tgroups_into
    rw [hB]
    exact sq start (sqx (by rw [q_swhi]; exact e))
  · refine ⟨none, F_rt (s := Tgroups_into) (δ := [some (bN ws), some (.int (most : Int)), none, none, none, none]) rfl rfl ?_, fun g hg => (by cases hg), fun z => absurd z hG⟩
    unfold Tgroups_into
    rw [hB]
    exact sq start (sq (by rw [q_swhi]; exact e) (sqx rfl))
end VS
set_option Elab.async false
set_option linter.all false
set_option maxRecDepth 100000
namespace VS
open PySem PySem.Spec L2
open PyProof.Rows hiding St
theorem nd_of {α : Type} : ∀ {gs : List (List α)} {g : List α}, gs.flatten.Nodup → g ∈ gs → g.Nodup
  | x :: gs, g, h, hg => by
    rw [List.flatten_cons] at h
    have h := List.nodup_append.mp h
    rcases List.mem_cons.mp hg with rfl | hg
    · exact h.1
    · exact nd_of h.2.1 hg
theorem resN_non (r : Option (List (List Nat))) : isNonD (resN r) = r.isNone := by cases r <;> rfl
theorem f_leastg {ws : List (List Nat)} {k : Nat} (hk : k ≤ 1000) (hw : Lk k ws) (hn : ws.length ≤ 8) :
    ∃ gs most, Fleast_groups [bN ws] = .ok (bN gs) ∧ Og ws gs most ∧ gsum gs = ws.length ∧ (AllAp ws → gs.length ≤ 1) := by
  have body : ∀ m r x, (r : Option (List (List Nat))) = none → ∃ r' : Option (List (List Nat)), sev (.seq (.asg (.one 1) (.ari .Add (.sl 1) (.k (.int 1)))) (.seq (.asg (.one 2) (.call "groups_into" Fgroups_into .S (.cons (.sl 0) (.cons (.cI (.sl 1)) .nil)))) .nil)) [some (bN ws), some (.int ((m : Nat) : Int)), x] = .nx [some (bN ws), some (.int ((m + 1 : Nat) : Int)), some (resN r')] ∧ (∀ gs, r' = some gs → Og ws gs (m + 1) ∧ gsum gs = ws.length) ∧ (Goes ws (m + 1) → r' ≠ none) := by
    intro m r x _
    obtain ⟨r', e, h1, h2⟩ := f_into (m + 1) hk hw hn
    have n1 := n_add1 m
    refine ⟨r', sq (δ1 := [some (bN ws), some (.int ((m + 1 : Nat) : Int)), x]) (by simp only [List.set_cons_succ, List.set_cons_zero, q_sasg, q_spar, q_sret, q_sretS, q_sife, q_snil, q_tn, q_tr, q_lst, q_tup, q_call, q_cons, q_nil, q_cI, q_ari, q_ix, q_sl, q_s0, q_s1, q_ki, q_kn, q_kb, q_ks, q_neg, q_negD, q_ci, q_cb, q_cs, q_cn, if_true, q_ok, q_ii, q_or, q_and, q_one, q_not, q_cmp, q_eq, q_ne, q_lt, q_le, q_gt, q_ge, q_is, q_isnot, q_isnN, q_isnI, q_isnL, q_isnT, q_notR, q_boolD, Bool.not_true, Bool.not_false, List.length_cons, List.length_nil, sz (show 0 ≤ 1000000 by decide), sz (show 0 + 1 ≤ 1000000 by decide), sz (show 0 + 1 + 1 ≤ 1000000 by decide), q_lok, q_t1, q_t2, q_t3, q_t4, q_blt, q_blt1, q_blt2, q_eqi, n1]) (sq (δ1 := [some (bN ws), some (.int ((m + 1 : Nat) : Int)), some (resN r')]) (by simp only [List.set_cons_succ, List.set_cons_zero, q_sasg, q_spar, q_sret, q_sretS, q_sife, q_snil, q_tn, q_tr, q_lst, q_tup, q_call, q_cons, q_nil, q_cI, q_ari, q_ix, q_sl, q_s0, q_s1, q_ki, q_kn, q_kb, q_ks, q_neg, q_negD, q_ci, q_cb, q_cs, q_cn, if_true, q_ok, q_ii, q_or, q_and, q_one, q_not, q_cmp, q_eq, q_ne, q_lt, q_le, q_gt, q_ge, q_is, q_isnot, q_isnN, q_isnI, q_isnL, q_isnT, q_notR, q_boolD, Bool.not_true, Bool.not_false, List.length_cons, List.length_nil, sz (show 0 ≤ 1000000 by decide), sz (show 0 + 1 ≤ 1000000 by decide), sz (show 0 + 1 + 1 ≤ 1000000 by decide), q_lok, q_t1, q_t2, q_t3, q_t4, q_blt, q_blt1, q_blt2, q_eqi, e]) rfl), h1, h2⟩
  have key := whL_two (c := fun δ => ev (.cmp .Is (.sl 2) (.k (.none))) δ >>= boolD) (f := sev (.seq (.asg (.one 1) (.ari .Add (.sl 1) (.k (.int 1)))) (.seq (.asg (.one 2) (.call "groups_into" Fgroups_into .S (.cons (.sl 0) (.cons (.cI (.sl 1)) .nil)))) .nil)))
    (I := fun m δ => ∃ most r, δ = [some (bN ws), some (.int ((most : Nat) : Int)), some (resN r)] ∧ most ≤ ws.length ∧ m = ws.length - most ∧ (∀ gs, r = some gs → Og ws gs most ∧ gsum gs = ws.length) ∧ (Goes ws most → r ≠ none) ∧ (AllAp ws → most ≤ 1))
    (J := fun δ => ∃ most gs, δ = [some (bN ws), some (.int ((most : Nat) : Int)), some (bN gs)] ∧ Og ws gs most ∧ gsum gs = ws.length ∧ (AllAp ws → most ≤ 1)) (G := fun _ => False) (fun m δ hI => by
      obtain ⟨most, r, rfl, hm, rfl, h1, h2, h3⟩ := hI
      cases r with
      | some gs =>
        refine .inl ⟨?_, most, gs, rfl, (h1 gs rfl).1, (h1 gs rfl).2, h3⟩
        simp only [List.set_cons_succ, List.set_cons_zero, q_sasg, q_spar, q_sret, q_sretS, q_sife, q_snil, q_tn, q_tr, q_lst, q_tup, q_call, q_cons, q_nil, q_cI, q_ari, q_ix, q_sl, q_s0, q_s1, q_ki, q_kn, q_kb, q_ks, q_neg, q_negD, q_ci, q_cb, q_cs, q_cn, if_true, q_ok, q_ii, q_or, q_and, q_one, q_not, q_cmp, q_eq, q_ne, q_lt, q_le, q_gt, q_ge, q_is, q_isnot, q_isnN, q_isnI, q_isnL, q_isnT, q_notR, q_boolD, Bool.not_true, Bool.not_false, List.length_cons, List.length_nil, sz (show 0 ≤ 1000000 by decide), sz (show 0 + 1 ≤ 1000000 by decide), sz (show 0 + 1 + 1 ≤ 1000000 by decide), q_lok, q_t1, q_t2, q_t3, q_t4, q_blt, q_blt1, q_blt2, q_eqi, resN_non]
        rfl
      | none =>
        have g : ¬ Goes ws most := fun z => h2 z rfl
        have lt : most < ws.length := by
          by_cases c : ws.length ≤ most
          · exact absurd (.inl c) g
          · omega
        refine .inr ⟨by simp only [List.set_cons_succ, List.set_cons_zero, q_sasg, q_spar, q_sret, q_sretS, q_sife, q_snil, q_tn, q_tr, q_lst, q_tup, q_call, q_cons, q_nil, q_cI, q_ari, q_ix, q_sl, q_s0, q_s1, q_ki, q_kn, q_kb, q_ks, q_neg, q_negD, q_ci, q_cb, q_cs, q_cn, if_true, q_ok, q_ii, q_or, q_and, q_one, q_not, q_cmp, q_eq, q_ne, q_lt, q_le, q_gt, q_ge, q_is, q_isnot, q_isnN, q_isnI, q_isnL, q_isnT, q_notR, q_boolD, Bool.not_true, Bool.not_false, List.length_cons, List.length_nil, sz (show 0 ≤ 1000000 by decide), sz (show 0 + 1 ≤ 1000000 by decide), sz (show 0 + 1 + 1 ≤ 1000000 by decide), q_lok, q_t1, q_t2, q_t3, q_t4, q_blt, q_blt1, q_blt2, q_eqi, resN_non]; rfl, .inr ?_⟩
        obtain ⟨r', e, g1, g2⟩ := body most none (some (resN none)) rfl
        refine ⟨_, _, e, ?_, most + 1, r', rfl, by omega, rfl, g1, g2, fun hA => ?_⟩
        · omega
        · by_cases c : 1 ≤ most
          · exact absurd (.inr ⟨c, hA⟩) g
          · omega)
  obtain ⟨r0, e0, g1, g2⟩ := f_into 0 hk hw hn
  have e0 : Fgroups_into [bN ws, .int 0] = .ok (resN r0) := e0
  rcases key 100 (ws.length - 0) [some (bN ws), some (.int ((0 : Nat) : Int)), some (resN r0)] (by omega) ⟨0, r0, rfl, by omega, rfl, g1, g2, fun _ => by omega⟩ with ⟨d, _, h⟩ | ⟨δ', e, most, gs, rfl, og, hs, hA⟩
  · exact h.elim
  · refine ⟨gs, most, F_rt (s := Tleast_groups) (δ := [some (bN ws), none, none]) rfl rfl ?_, og, hs, fun h => Nat.le_trans og.m (hA h)⟩
    unfold Tleast_groups
    refine sq (δ1 := [some (bN ws), some (.int 0), none]) (by simp only [List.set_cons_succ, List.set_cons_zero, q_sasg, q_spar, q_sret, q_sretS, q_sife, q_snil, q_tn, q_tr, q_lst, q_tup, q_call, q_cons, q_nil, q_cI, q_ari, q_ix, q_sl, q_s0, q_s1, q_ki, q_kn, q_kb, q_ks, q_neg, q_negD, q_ci, q_cb, q_cs, q_cn, if_true, q_ok, q_ii, q_or, q_and, q_one, q_not, q_cmp, q_eq, q_ne, q_lt, q_le, q_gt, q_ge, q_is, q_isnot, q_isnN, q_isnI, q_isnL, q_isnT, q_notR, q_boolD, Bool.not_true, Bool.not_false, List.length_cons, List.length_nil, sz (show 0 ≤ 1000000 by decide), sz (show 0 + 1 ≤ 1000000 by decide), sz (show 0 + 1 + 1 ≤ 1000000 by decide), q_lok, q_t1, q_t2, q_t3, q_t4, q_blt, q_blt1, q_blt2, q_eqi]) (sq (δ1 := [some (bN ws), some (.int 0), some (resN r0)]) (by simp only [List.set_cons_succ, List.set_cons_zero, q_sasg, q_spar, q_sret, q_sretS, q_sife, q_snil, q_tn, q_tr, q_lst, q_tup, q_call, q_cons, q_nil, q_cI, q_ari, q_ix, q_sl, q_s0, q_s1, q_ki, q_kn, q_kb, q_ks, q_neg, q_negD, q_ci, q_cb, q_cs, q_cn, if_true, q_ok, q_ii, q_or, q_and, q_one, q_not, q_cmp, q_eq, q_ne, q_lt, q_le, q_gt, q_ge, q_is, q_isnot, q_isnN, q_isnI, q_isnL, q_isnT, q_notR, q_boolD, Bool.not_true, Bool.not_false, List.length_cons, List.length_nil, sz (show 0 ≤ 1000000 by decide), sz (show 0 + 1 ≤ 1000000 by decide), sz (show 0 + 1 + 1 ≤ 1000000 by decide), q_lok, q_t1, q_t2, q_t3, q_t4, q_blt, q_blt1, q_blt2, q_eqi, e0]) (sq (by rw [q_swhi]; exact e) (sqx rfl)))
/-! ### what the law asks of groups -/
def gc (c : List (Nat × Nat)) (g : List Nat) : List (Nat × Nat) := g.map fun i => c.getD i (0, 0)
theorem gc_len (c : List (Nat × Nat)) (g : List Nat) : (gc c g).length = g.length := by unfold gc; rw [List.length_map]
theorem gc_at {c : List (Nat × Nat)} {g : List Nat} {i : Nat} (h : i < g.length) : (gc c g).getD i (0, 0) = c.getD (g.getD i 0) (0, 0) := by
  rw [getD_in _ (by rw [gc_len]; exact h), getD_in _ h]
  unfold gc
  rw [List.getElem_map]
theorem cN_cat {a b : List (Nat × Nat)} (h : a.length + b.length ≤ 1000000) : catD (cN a) (cN b) = .ok (cN (a ++ b)) := by
  unfold cN
  show (if _ then _ else _) = _
  rw [if_pos (sz (by rw [List.length_map, List.length_map]; exact h)), List.map_append]
def pI (p : Nat × Nat) : Int × Int := ((p.1 : Int), (p.2 : Int))
theorem pairs_c : ∀ c : List (Nat × Nat), pairsD (c.map pN) = .ok (c.map pI)
  | [] => rfl
  | p :: c => by
    show (pairsD (c.map pN) >>= fun l => R.ok ((((p.1 : Int), (p.2 : Int)) : Int × Int) :: l)) = _
    rw [pairs_c c, q_ok]
    rfl
theorem q_srp {c d : List (Nat × Nat)} (h : c.Perm d) (hd : (d.map pI).Pairwise fun p q => lexI p q = true) : p1D .srp (cN c) = .ok (cN d) := by
  show (pairsD (c.map pN) >>= fun l => R.ok (PyData.list ((srtP l).map pairP))) = _
  rw [pairs_c, q_ok]
  have e : srtP (c.map pI) = d.map pI := pairs_uniq ((srtP_perm _).trans (h.map _)) (srtP_sorted _) hd
  rw [e]
  unfold cN
  rw [List.map_map]
  rfl
theorem shp_cN (c : List (Nat × Nat)) : Shp 2 (cN c) := Shp.list fun d hd => by
  obtain ⟨p, _, rfl⟩ := List.mem_map.mp hd
  exact Shp.tuple (n := 0) fun d hd => by
    rcases List.mem_cons.mp hd with rfl | hd
    · exact .int _ _
    · rw [List.mem_singleton.mp hd]; exact .int _ _
theorem eq_cN (c : List (Nat × Nat)) : eqD (cN c) (cN c) = .ok true := eqD_self (shp_cN c)
theorem f_rgroups {k : Nat} {c : List (Nat × Nat)} (h1 : 1 ≤ k) (hk : k ≤ 5) (C : Cls k c) (hl : c.length ≤ 8) (asc : ∀ i j, i < j → j < c.length → ca c i < ca c j) : F_law_right_groups [.int (k : Int), cN c] = .ok (.bool true) := by
  have lw := ways_len k c
  obtain ⟨gs, most, el, og, hs, hA⟩ := f_leastg (by omega) (ways_lk k c) (by omega)
  rw [lw] at hs
  have hmem : ∀ g ∈ gs, ∀ i ∈ g, i < c.length := fun g hg i hi => by rw [← hs]; exact og.mem hg hi
  have glen : ∀ g ∈ gs, g.length ≤ 8 := fun g hg => by have := Og.glen (ws := ways k c) (most := most) hg; omega
  have eg : Fgroups_of [.int (k : Int), cN c] = .ok (.list (gs.map fun g => cN (gc c g))) := by
    refine F_rt (s := Tgroups_of) (δ := [some (.int (k : Int)), some (cN c), none, none]) rfl rfl ?_
    unfold Tgroups_of
    refine sqx ?_
    have ew := f_ways (c := c) hk
    rw [q_sret, ev_comp gs iN (fun g => cN (gc c g)) (by simp only [List.set_cons_succ, List.set_cons_zero, q_sasg, q_spar, q_sret, q_sretS, q_sife, q_snil, q_tn, q_tr, q_lst, q_tup, q_call, q_cons, q_nil, q_cI, q_ari, q_ix, q_sl, q_s0, q_s1, q_ki, q_kn, q_kb, q_ks, q_neg, q_negD, q_ci, q_cb, q_cs, q_cn, if_true, q_ok, q_ii, q_or, q_and, q_one, q_not, q_cmp, q_eq, q_ne, q_lt, q_le, q_gt, q_ge, q_is, q_isnot, q_isnN, q_isnI, q_isnL, q_isnT, q_notR, q_boolD, Bool.not_true, Bool.not_false, List.length_cons, List.length_nil, sz (show 0 ≤ 1000000 by decide), sz (show 0 + 1 ≤ 1000000 by decide), sz (show 0 + 1 + 1 ≤ 1000000 by decide), q_lok, q_t1, q_t2, q_t3, q_t4, q_blt, q_blt1, q_blt2, q_eqi, ew, el]; rfl) fun g hg => ⟨_, rfl, ?_⟩]
    · rfl
    · rw [ev_comp g (fun (i : Nat) => PyData.int (i : Int)) (fun i => pN (c.getD i (0, 0))) rfl fun i hi => ⟨_, rfl, ?_⟩]
      · unfold cN gc
        rw [List.map_map]
        rfl
      · have a1 := cN_at (hmem g hg i hi)
        simp only [q_w1, q_w0, List.map_cons, List.map_nil, List.set_cons_succ, List.set_cons_zero, q_sasg, q_spar, q_sret, q_sretS, q_sife, q_snil, q_tn, q_tr, q_lst, q_tup, q_call, q_cons, q_nil, q_cI, q_ari, q_ix, q_sl, q_s0, q_s1, q_ki, q_kn, q_kb, q_ks, q_neg, q_negD, q_ci, q_cb, q_cs, q_cn, if_true, q_ok, q_ii, q_or, q_and, q_one, q_not, q_cmp, q_eq, q_ne, q_lt, q_le, q_gt, q_ge, q_is, q_isnot, q_isnN, q_isnI, q_isnL, q_isnT, q_notR, q_boolD, Bool.not_true, Bool.not_false, List.length_cons, List.length_nil, sz (show 0 ≤ 1000000 by decide), sz (show 0 + 1 ≤ 1000000 by decide), sz (show 0 + 1 + 1 ≤ 1000000 by decide), q_lok, q_t1, q_t2, q_t3, q_t4, q_blt, q_blt1, q_blt2, q_eqi, a1, p_imm]
  have ef : Ffewest_groups [.int (k : Int), cN c] = .ok (.int (gs.length : Int)) := by
    refine F_rt (s := Tfewest_groups) (δ := [some (.int (k : Int)), some (cN c)]) rfl rfl ?_
    unfold Tfewest_groups
    refine sqx ?_
    have ew := f_ways (c := c) hk
    simp only [List.set_cons_succ, List.set_cons_zero, q_sasg, q_spar, q_sret, q_sretS, q_sife, q_snil, q_tn, q_tr, q_lst, q_tup, q_call, q_cons, q_nil, q_cI, q_ari, q_ix, q_sl, q_s0, q_s1, q_ki, q_kn, q_kb, q_ks, q_neg, q_negD, q_ci, q_cb, q_cs, q_cn, if_true, q_ok, q_ii, q_or, q_and, q_one, q_not, q_cmp, q_eq, q_ne, q_lt, q_le, q_gt, q_ge, q_is, q_isnot, q_isnN, q_isnI, q_isnL, q_isnT, q_notR, q_boolD, Bool.not_true, Bool.not_false, List.length_cons, List.length_nil, sz (show 0 ≤ 1000000 by decide), sz (show 0 + 1 ≤ 1000000 by decide), sz (show 0 + 1 + 1 ≤ 1000000 by decide), q_lok, q_t1, q_t2, q_t3, q_t4, q_blt, q_blt1, q_blt2, q_eqi, ew, el, bN_len]
  have mc : ∀ i, i < c.length → (c.getD i (0, 0)).1 < 2 ^ k ∧ (c.getD i (0, 0)).2 < 2 ^ k := fun i hi => ⟨C.a i hi, C.b i hi⟩
  have lom : ∀ (e : List (Nat × Nat)) (j : Nat) (δ : Sl), (∀ p ∈ e, p.1 < 2 ^ k ∧ p.2 < 2 ^ k) → slotD δ j = .ok (cN e) → δ.length = 8 → slotD (wipeD δ [6, 7]) 0 = .ok (.int (k : Int)) → ev (.comp [("a", 6), ("b", 7)] (.tup [6, 7]) (.sl j) .nop (.call "_law_omega" F_law_omega .F (.cons (.cI (.sl 0)) (.cons (.cI (.sl 6)) (.cons (.cI (.sl 7)) .nil))))) δ = .ok (bN (ways k e)) := by
    intro e j δ he hj hl h0
    refine ev_ways hk (by rw [q_sl, hj]; rfl) fun p hp => ?_
    have e1 := f_lomega hk (he p hp).1 (he p hp).2
    match δ, hl with
    | [d0, d1, d2, d3, d4, d5, d6, d7], _ =>
      have h0 : slotD [d0, d1, d2, d3, d4, d5, none, none] 0 = .ok (.int (k : Int)) := h0
      cases d0 with
      | none => cases h0
      | some d0 =>
        cases h0
        refine ⟨_, rfl, ?_⟩
        simp only [q_w1, q_w0, List.map_cons, List.map_nil, List.set_cons_succ, List.set_cons_zero, q_sasg, q_spar, q_sret, q_sretS, q_sife, q_snil, q_tn, q_tr, q_lst, q_tup, q_call, q_cons, q_nil, q_cI, q_ari, q_ix, q_sl, q_s0, q_s1, q_ki, q_kn, q_kb, q_ks, q_neg, q_negD, q_ci, q_cb, q_cs, q_cn, if_true, q_ok, q_ii, q_or, q_and, q_one, q_not, q_cmp, q_eq, q_ne, q_lt, q_le, q_gt, q_ge, q_is, q_isnot, q_isnN, q_isnI, q_isnL, q_isnT, q_notR, q_boolD, Bool.not_true, Bool.not_false, List.length_cons, List.length_nil, sz (show 0 ≤ 1000000 by decide), sz (show 0 + 1 ≤ 1000000 by decide), sz (show 0 + 1 + 1 ≤ 1000000 by decide), q_lok, q_t1, q_t2, q_t3, q_t4, q_blt, q_blt1, q_blt2, q_eqi, e1]
  refine F_rt (s := T_law_right_groups) (δ := [some (.int (k : Int)), some (cN c), none, none, none, none, none, none]) rfl rfl ?_
  unfold T_law_right_groups
  have ecp : ∀ x2 x3 x4 x5 x6 x7, ev (.cL (.blt .list (.cons (.sl 1) .nil))) [some (.int (k : Int)), some (cN c), x2, x3, x4, x5, x6, x7] = .ok (cN c) := fun _ _ _ _ _ _ => cN_copy rfl
  refine sq (δ1 := [some (.int (k : Int)), some (cN c), some (.list (gs.map fun g => cN (gc c g))), none, none, none, none, none]) (by simp only [List.set_cons_succ, List.set_cons_zero, q_sasg, q_spar, q_sret, q_sretS, q_sife, q_snil, q_tn, q_tr, q_lst, q_tup, q_call, q_cons, q_nil, q_cI, q_ari, q_ix, q_sl, q_s0, q_s1, q_ki, q_kn, q_kb, q_ks, q_neg, q_negD, q_ci, q_cb, q_cs, q_cn, if_true, q_ok, q_ii, q_or, q_and, q_one, q_not, q_cmp, q_eq, q_ne, q_lt, q_le, q_gt, q_ge, q_is, q_isnot, q_isnN, q_isnI, q_isnL, q_isnT, q_notR, q_boolD, Bool.not_true, Bool.not_false, List.length_cons, List.length_nil, sz (show 0 ≤ 1000000 by decide), sz (show 0 + 1 ≤ 1000000 by decide), sz (show 0 + 1 + 1 ≤ 1000000 by decide), q_lok, q_t1, q_t2, q_t3, q_t4, q_blt, q_blt1, q_blt2, q_eqi, ecp, eg]) ?_
  refine sq (δ1 := [some (.int (k : Int)), some (cN c), some (.list (gs.map fun g => cN (gc c g))), some (cN []), none, none, none, none]) (by simp only [List.set_cons_succ, List.set_cons_zero, q_sasg, q_spar, q_sret, q_sretS, q_sife, q_snil, q_tn, q_tr, q_lst, q_tup, q_call, q_cons, q_nil, q_cI, q_ari, q_ix, q_sl, q_s0, q_s1, q_ki, q_kn, q_kb, q_ks, q_neg, q_negD, q_ci, q_cb, q_cs, q_cn, if_true, q_ok, q_ii, q_or, q_and, q_one, q_not, q_cmp, q_eq, q_ne, q_lt, q_le, q_gt, q_ge, q_is, q_isnot, q_isnN, q_isnI, q_isnL, q_isnT, q_notR, q_boolD, Bool.not_true, Bool.not_false, List.length_cons, List.length_nil, sz (show 0 ≤ 1000000 by decide), sz (show 0 + 1 ≤ 1000000 by decide), sz (show 0 + 1 + 1 ≤ 1000000 by decide), q_lok, q_t1, q_t2, q_t3, q_t4, q_blt, q_blt1, q_blt2, q_eqi]; rfl) ?_
  have nd : gs.flatten.Nodup := og.perm.nodup_iff.mpr List.nodup_range
  have ftake : ∀ i, (gs.take i).flatten.length ≤ 8 := fun i => by
    have e : gs.flatten.length = (gs.take i).flatten.length + (gs.drop i).flatten.length := by
      rw [← List.length_append, ← List.flatten_append, List.take_append_drop]
    rw [gsum_flat, hs] at e
    omega
  refine sq_for (gs.map fun g => cN (gc c g)) rfl rfl (fun i δ => ∃ x4, δ = [some (.int (k : Int)), some (cN c), some (.list (gs.map fun g => cN (gc c g))), some (cN (gc c (gs.take i).flatten)), x4, none, none, none]) ⟨none, rfl⟩ (fun i δ hi hI => ?_) (fun δ' hI => ?_)
  · obtain ⟨x4, rfl⟩ := hI
    have hi : i < gs.length := by simpa using hi
    rw [List.getElem_map]
    have gm : gs[i] ∈ gs := List.getElem_mem hi
    have et : (gs.take (i + 1)).flatten = (gs.take i).flatten ++ gs[i] := by
      rw [← List.take_append_getElem hi, List.flatten_append]; simp
    have l1 := ftake (i + 1)
    rw [et, List.length_append] at l1
    have ndg : gs[i].Nodup := nd_of nd gm
    rw [et]
    generalize gs[i] = g at *
    generalize (gs.take i).flatten = f at *
    have ec := cN_cat (a := gc c f) (b := gc c g) (by rw [gc_len, gc_len]; omega)
    have eap : gc c f ++ gc c g = gc c (f ++ g) := by unfold gc; rw [List.map_append]
    rw [eap] at ec
    have e1 : ev (.cL (.cat (.sl 3) (.sl 4))) [some (.int (k : Int)), some (cN c), some (.list (gs.map fun g => cN (gc c g))), some (cN (gc c f)), some (cN (gc c g)), none, none, none] = .ok (cN (gc c (f ++ g))) := cN_cL (by simp only [q_cat, List.set_cons_succ, List.set_cons_zero, q_sasg, q_spar, q_sret, q_sretS, q_sife, q_snil, q_tn, q_tr, q_lst, q_tup, q_call, q_cons, q_nil, q_cI, q_ari, q_ix, q_sl, q_s0, q_s1, q_ki, q_kn, q_kb, q_ks, q_neg, q_negD, q_ci, q_cb, q_cs, q_cn, if_true, q_ok, q_ii, q_or, q_and, q_one, q_not, q_cmp, q_eq, q_ne, q_lt, q_le, q_gt, q_ge, q_is, q_isnot, q_isnN, q_isnI, q_isnL, q_isnT, q_notR, q_boolD, Bool.not_true, Bool.not_false, List.length_cons, List.length_nil, sz (show 0 ≤ 1000000 by decide), sz (show 0 + 1 ≤ 1000000 by decide), sz (show 0 + 1 + 1 ≤ 1000000 by decide), q_lok, q_t1, q_t2, q_t3, q_t4, q_blt, q_blt1, q_blt2, q_eqi, ec])
    have e2 := lom (gc c g) 4 [some (.int (k : Int)), some (cN c), some (.list (gs.map fun g => cN (gc c g))), some (cN (gc c (f ++ g))), some (cN (gc c g)), none, none, none] (fun p hp => by
      obtain ⟨i, hi, rfl⟩ := List.mem_map.mp hp
      exact mc i (hmem g gm i hi)) rfl rfl rfl
    have ea : AllAp (ways k (gc c g)) := by
      intro a b hab hb t ht
      rw [ways_len, gc_len] at hb
      have key : ∀ i, i < g.length → (ways k (gc c g)).getD i [] = (ways k c).getD (g.getD i 0) [] := fun i hi => by
        rw [ways_at (by rw [gc_len]; exact hi), ways_at (hmem g gm _ (by rw [getD_in _ hi]; exact List.getElem_mem hi))]
        unfold ca cb'
        rw [gc_at hi]
      rw [key a (by omega), key b hb]
      have ha : g.getD a 0 ∈ g := by rw [getD_in _ (show a < g.length by omega)]; exact List.getElem_mem _
      have hb' : g.getD b 0 ∈ g := by rw [getD_in _ hb]; exact List.getElem_mem _
      have ne : g.getD a 0 ≠ g.getD b 0 := by
        rw [getD_in _ (show a < g.length by omega), getD_in _ hb]
        intro z
        have := (List.getElem_inj ndg).mp z
        omega
      have lk := fun j (hj : j ∈ g) => ways_lk k c j (by rw [lw]; exact hmem g gm j hj)
      rw [key a (by omega), lk _ ha] at ht
      rcases Nat.lt_or_gt_of_ne ne with z | z
      · exact og.ap g gm _ _ ha hb' z t (by rw [lk _ ha]; exact ht)
      · exact fun e => og.ap g gm _ _ hb' ha z t (by rw [lk _ hb']; exact ht) e.symm
    have fa : F_law_apart [bN (ways k (gc c g))] = .ok (.bool true) := by
      rcases f_apart (by omega) (ways_lk k (gc c g)) (by rw [ways_len, gc_len]; have := glen g gm; omega) with ⟨h, _⟩ | ⟨_, h⟩
      · exact h
      · exact absurd ea h
    refine ⟨_, _, rfl, sq (δ1 := [some (.int (k : Int)), some (cN c), some (.list (gs.map fun g => cN (gc c g))), some (cN (gc c (f ++ g))), some (cN (gc c g)), none, none, none]) ?_ (sq (δ1 := [some (.int (k : Int)), some (cN c), some (.list (gs.map fun g => cN (gc c g))), some (cN (gc c (f ++ g))), some (cN (gc c g)), none, none, none]) ?_ rfl), _, rfl⟩
    · rw [q_sasg]
      simp only [List.set_cons_succ, List.set_cons_zero, e1, q_lok, q_t1]
    · simp only [List.set_cons_succ, List.set_cons_zero, q_sasg, q_spar, q_sret, q_sretS, q_sife, q_snil, q_tn, q_tr, q_lst, q_tup, q_call, q_cons, q_nil, q_cI, q_ari, q_ix, q_sl, q_s0, q_s1, q_ki, q_kn, q_kb, q_ks, q_neg, q_negD, q_ci, q_cb, q_cs, q_cn, if_true, q_ok, q_ii, q_or, q_and, q_one, q_not, q_cmp, q_eq, q_ne, q_lt, q_le, q_gt, q_ge, q_is, q_isnot, q_isnN, q_isnI, q_isnL, q_isnT, q_notR, q_boolD, Bool.not_true, Bool.not_false, List.length_cons, List.length_nil, sz (show 0 ≤ 1000000 by decide), sz (show 0 + 1 ≤ 1000000 by decide), sz (show 0 + 1 + 1 ≤ 1000000 by decide), q_lok, q_t1, q_t2, q_t3, q_t4, q_blt, q_blt1, q_blt2, q_eqi, e2, fa]
  · obtain ⟨x4, rfl⟩ := hI
    rw [List.length_map, List.take_length]
    have pm : (gc c gs.flatten).Perm c := by
      have e : (gc c (List.range c.length)) = c := by
        unfold gc
        refine List.ext_getElem (by simp) fun i h1 h2 => ?_
        rw [List.getElem_map, List.getElem_range, getD_in _ h2]
      have := og.perm
      rw [hs] at this
      have h2 := this.map fun i => c.getD i (0, 0)
      rw [show (List.range c.length).map (fun i => c.getD i (0, 0)) = c from e] at h2
      exact h2
    have so : (c.map pI).Pairwise fun p q => lexI p q = true := by
      refine List.pairwise_map.mpr (List.pairwise_iff_getElem.mpr fun i j hi hj hij => ?_)
      have := asc i j hij hj
      unfold ca at this
      rw [getD_in _ hi, getD_in _ hj] at this
      rw [lexI_iff]
      left
      show ((c[i].1 : Int)) < (c[j].1 : Int)
      omega
    have es := q_srp pm so
    have ec := eq_cN c
    have elg : blt1 .len (.list (gs.map fun g => cN (gc c g))) = .ok (.int (gs.length : Int)) := by rw [q_lenL, List.length_map]
    have e2 := lom c 1 [some (.int (k : Int)), some (cN c), some (.list (gs.map fun g => cN (gc c g))), some (cN (gc c gs.flatten)), x4, none, none, none] (fun p hp => by
      obtain ⟨i, hi, rfl⟩ := List.mem_iff_getElem.mp hp
      have := mc i hi
      rwa [getD_in _ hi] at this) rfl rfl rfl
    refine sq (δ1 := [some (.int (k : Int)), some (cN c), some (.list (gs.map fun g => cN (gc c g))), some (cN (gc c gs.flatten)), x4, none, none, none]) (by simp only [List.set_cons_succ, List.set_cons_zero, q_sasg, q_spar, q_sret, q_sretS, q_sife, q_snil, q_tn, q_tr, q_lst, q_tup, q_call, q_cons, q_nil, q_cI, q_ari, q_ix, q_sl, q_s0, q_s1, q_ki, q_kn, q_kb, q_ks, q_neg, q_negD, q_ci, q_cb, q_cs, q_cn, if_true, q_ok, q_ii, q_or, q_and, q_one, q_not, q_cmp, q_eq, q_ne, q_lt, q_le, q_gt, q_ge, q_is, q_isnot, q_isnN, q_isnI, q_isnL, q_isnT, q_notR, q_boolD, Bool.not_true, Bool.not_false, List.length_cons, List.length_nil, sz (show 0 ≤ 1000000 by decide), sz (show 0 + 1 ≤ 1000000 by decide), sz (show 0 + 1 + 1 ≤ 1000000 by decide), q_lok, q_t1, q_t2, q_t3, q_t4, q_blt, q_blt1, q_blt2, q_eqi, q_pr1, es, ec, ecp, ef, elg, decide_true]) ?_
    rcases f_apart (by omega) (ways_lk k c) (by omega) with ⟨ef2, hA2⟩ | ⟨ef2, hA2⟩
    · refine sq (δ1 := [some (.int (k : Int)), some (cN c), some (.list (gs.map fun g => cN (gc c g))), some (cN (gc c gs.flatten)), x4, some (.bool true), none, none]) (by simp only [List.set_cons_succ, List.set_cons_zero, q_sasg, q_spar, q_sret, q_sretS, q_sife, q_snil, q_tn, q_tr, q_lst, q_tup, q_call, q_cons, q_nil, q_cI, q_ari, q_ix, q_sl, q_s0, q_s1, q_ki, q_kn, q_kb, q_ks, q_neg, q_negD, q_ci, q_cb, q_cs, q_cn, if_true, q_ok, q_ii, q_or, q_and, q_one, q_not, q_cmp, q_eq, q_ne, q_lt, q_le, q_gt, q_ge, q_is, q_isnot, q_isnN, q_isnI, q_isnL, q_isnT, q_notR, q_boolD, Bool.not_true, Bool.not_false, List.length_cons, List.length_nil, sz (show 0 ≤ 1000000 by decide), sz (show 0 + 1 ≤ 1000000 by decide), sz (show 0 + 1 + 1 ≤ 1000000 by decide), q_lok, q_t1, q_t2, q_t3, q_t4, q_blt, q_blt1, q_blt2, q_eqi, e2, ef2]) (sqx ?_)
      have := hA hA2
      simp only [List.set_cons_succ, List.set_cons_zero, q_sasg, q_spar, q_sret, q_sretS, q_sife, q_snil, q_tn, q_tr, q_lst, q_tup, q_call, q_cons, q_nil, q_cI, q_ari, q_ix, q_sl, q_s0, q_s1, q_ki, q_kn, q_kb, q_ks, q_neg, q_negD, q_ci, q_cb, q_cs, q_cn, if_true, q_ok, q_ii, q_or, q_and, q_one, q_not, q_cmp, q_eq, q_ne, q_lt, q_le, q_gt, q_ge, q_is, q_isnot, q_isnN, q_isnI, q_isnL, q_isnT, q_notR, q_boolD, Bool.not_true, Bool.not_false, List.length_cons, List.length_nil, sz (show 0 ≤ 1000000 by decide), sz (show 0 + 1 ≤ 1000000 by decide), sz (show 0 + 1 + 1 ≤ 1000000 by decide), q_lok, q_t1, q_t2, q_t3, q_t4, q_blt, q_blt1, q_blt2, q_eqi, elg, eq_bb, show decide ((gs.length : Int) ≤ 1) = true from decide_eq_true (by omega), decide_true]
    · refine sq (δ1 := [some (.int (k : Int)), some (cN c), some (.list (gs.map fun g => cN (gc c g))), some (cN (gc c gs.flatten)), x4, some (.bool false), none, none]) (by simp only [List.set_cons_succ, List.set_cons_zero, q_sasg, q_spar, q_sret, q_sretS, q_sife, q_snil, q_tn, q_tr, q_lst, q_tup, q_call, q_cons, q_nil, q_cI, q_ari, q_ix, q_sl, q_s0, q_s1, q_ki, q_kn, q_kb, q_ks, q_neg, q_negD, q_ci, q_cb, q_cs, q_cn, if_true, q_ok, q_ii, q_or, q_and, q_one, q_not, q_cmp, q_eq, q_ne, q_lt, q_le, q_gt, q_ge, q_is, q_isnot, q_isnN, q_isnI, q_isnL, q_isnT, q_notR, q_boolD, Bool.not_true, Bool.not_false, List.length_cons, List.length_nil, sz (show 0 ≤ 1000000 by decide), sz (show 0 + 1 ≤ 1000000 by decide), sz (show 0 + 1 + 1 ≤ 1000000 by decide), q_lok, q_t1, q_t2, q_t3, q_t4, q_blt, q_blt1, q_blt2, q_eqi, e2, ef2]) (sqx ?_)
      have : ¬ gs.length ≤ 1 := fun z => hA2 fun a b hab hb => by
        rw [lw] at hb
        have hall : ∀ x, x < c.length → x ∈ gs.flatten := fun x hx => og.perm.mem_iff.mpr (List.mem_range.mpr (by rw [hs]; exact hx))
        match gs, z with
        | [], _ => exact absurd (hall b hb) (by simp)
        | [g], _ =>
          have e : ([g] : List (List Nat)).flatten = g := by simp
          rw [e] at hall
          exact og.ap g (by simp) a b (hall a (by omega)) (hall b hb) hab
      simp only [List.set_cons_succ, List.set_cons_zero, q_sasg, q_spar, q_sret, q_sretS, q_sife, q_snil, q_tn, q_tr, q_lst, q_tup, q_call, q_cons, q_nil, q_cI, q_ari, q_ix, q_sl, q_s0, q_s1, q_ki, q_kn, q_kb, q_ks, q_neg, q_negD, q_ci, q_cb, q_cs, q_cn, if_true, q_ok, q_ii, q_or, q_and, q_one, q_not, q_cmp, q_eq, q_ne, q_lt, q_le, q_gt, q_ge, q_is, q_isnot, q_isnN, q_isnI, q_isnL, q_isnT, q_notR, q_boolD, Bool.not_true, Bool.not_false, List.length_cons, List.length_nil, sz (show 0 ≤ 1000000 by decide), sz (show 0 + 1 ≤ 1000000 by decide), sz (show 0 + 1 + 1 ≤ 1000000 by decide), q_lok, q_t1, q_t2, q_t3, q_t4, q_blt, q_blt1, q_blt2, q_eqi, elg, eq_bb, show decide ((gs.length : Int) ≤ 1) = false from decide_eq_false (by omega), decide_true]
end VS
set_option Elab.async false
set_option linter.all false
set_option maxRecDepth 100000
namespace VS
open PySem PySem.Spec L2
open PyProof.Rows hiding St
/-! ### calls that pass -/
theorem ol_eq {k s a b a' b' : Nat} (hs : s ≤ k) (hb : b < 2 ^ k) (hb' : b' < 2 ^ k) (e : ol k a b s = ol k a' b' s) : a % 2 ^ (k - s) = a' % 2 ^ (k - s) ∧ b / 2 ^ (k - s) = b' / 2 ^ (k - s) := by
  unfold ol at e
  have pk : 2 ^ (k - s) * 2 ^ s = 2 ^ k := by rw [← Nat.pow_add]; congr 1; omega
  have h1 : b / 2 ^ (k - s) < 2 ^ s := Nat.div_lt_of_lt_mul (by rw [pk]; exact hb)
  have h2 : b' / 2 ^ (k - s) < 2 ^ s := Nat.div_lt_of_lt_mul (by rw [pk]; exact hb')
  have p0 : 0 < 2 ^ s := Nat.two_pow_pos s
  have d1 : (a % 2 ^ (k - s) * 2 ^ s + b / 2 ^ (k - s)) / 2 ^ s = a % 2 ^ (k - s) := by
    rw [Nat.mul_comm, Nat.mul_add_div p0, Nat.div_eq_of_lt h1, Nat.add_zero]
  have d2 : (a' % 2 ^ (k - s) * 2 ^ s + b' / 2 ^ (k - s)) / 2 ^ s = a' % 2 ^ (k - s) := by
    rw [Nat.mul_comm, Nat.mul_add_div p0, Nat.div_eq_of_lt h2, Nat.add_zero]
  have e1 : a % 2 ^ (k - s) = a' % 2 ^ (k - s) := by rw [← d1, ← d2, e]
  rw [e1] at e
  exact ⟨e1, by omega⟩
theorem dist_mul {a a' L : Nat} (hL : 0 < L) (h : a < a') (e : a % L = a' % L) : ∃ d, 0 < d ∧ a' = a + L * d := by
  have := Nat.sub_mod_eq_zero_of_mod_eq e.symm
  obtain ⟨d, hd⟩ := Nat.dvd_of_mod_eq_zero this
  refine ⟨d, ?_, by omega⟩
  rcases Nat.eq_zero_or_pos d with z | z
  · subst z; omega
  · exact z
theorem rising_ne {k s a b a' b' : Nat} (hs : s ≤ k) (hb : b < 2 ^ k) (hb' : b' < 2 ^ k) (h1 : a < a') (h2 : a' - a ≤ b' - b) (h3 : b < b') : ol k a b s ≠ ol k a' b' s := by
  intro e
  obtain ⟨e1, e2⟩ := ol_eq hs hb hb' e
  have p0 : 0 < 2 ^ (k - s) := Nat.two_pow_pos _
  generalize 2 ^ (k - s) = L at *
  obtain ⟨d, hd, rfl⟩ := dist_mul p0 h1 e1
  have : L * 1 ≤ L * d := Nat.mul_le_mul_left _ hd
  have m1 := Nat.div_add_mod b L
  have m2 := Nat.div_add_mod b' L
  have l1 := Nat.mod_lt b p0
  have l2 := Nat.mod_lt b' p0
  rw [e2] at m1
  generalize L * (b' / L) = z at *
  omega
theorem odd_co : ∀ s, s < 6 → ∀ j, j < 8 → Nat.gcd (2 ^ s) (2 * j + 1) = 1 := by decide +kernel
theorem shift_ne {k s a a' j e : Nat} (hk : k ≤ 5) (hs : s ≤ k) (hj : j < 8) (h1 : a < a') (ha' : a' < 2 ^ k) : ol k a ((a * (2 * j + 1) + e) % 2 ^ k) s ≠ ol k a' ((a' * (2 * j + 1) + e) % 2 ^ k) s := by
  intro q
  have pp : 0 < 2 ^ k := Nat.two_pow_pos k
  obtain ⟨e1, e2⟩ := ol_eq hs (Nat.mod_lt _ pp) (Nat.mod_lt _ pp) q
  have p0 : 0 < 2 ^ (k - s) := Nat.two_pow_pos _
  have pk : 2 ^ k = 2 ^ (k - s) * 2 ^ s := by rw [← Nat.pow_add]; congr 1; omega
  rw [pk, Nat.mod_mul_right_div_self, Nat.mod_mul_right_div_self] at e2
  obtain ⟨d, hd, rfl⟩ := dist_mul p0 h1 e1
  have co : Nat.Coprime (2 ^ s) (2 * j + 1) := odd_co s (by omega) j hj
  rw [pk] at ha'
  generalize 2 ^ (k - s) = L at *
  generalize 2 ^ s = M at *
  generalize 2 * j + 1 = m at *
  have x' : (a + L * d) * m + e = (a * m + e) + L * (d * m) := by rw [Nat.add_mul, Nat.mul_assoc]; omega
  rw [x', Nat.add_mul_div_left _ _ p0] at e2
  have := Nat.sub_mod_eq_zero_of_mod_eq e2.symm
  rw [Nat.add_sub_cancel_left] at this
  have dv := co.dvd_of_dvd_mul_right (Nat.dvd_of_mod_eq_zero this)
  have := Nat.le_of_dvd hd dv
  have := Nat.mul_le_mul_left L this
  omega
/-- calls told by a list of numbers -/
def cof (l : List Nat) (g f : Nat → Nat) : List (Nat × Nat) := l.map fun i => (g i, f i)
theorem cof_len (l : List Nat) (g f : Nat → Nat) : (cof l g f).length = l.length := by unfold cof; rw [List.length_map]
theorem cof_at {l : List Nat} {g f : Nat → Nat} {i : Nat} (h : i < l.length) : ca (cof l g f) i = g l[i] ∧ cb' (cof l g f) i = f l[i] := by
  unfold ca cb'
  rw [getD_in _ (by rw [cof_len]; exact h)]
  unfold cof
  rw [List.getElem_map]
  exact ⟨rfl, rfl⟩
theorem cof_asc {l : List Nat} {g f : Nat → Nat} (h : l.Pairwise fun i j => g i < g j) : ∀ i j, i < j → j < (cof l g f).length → ca (cof l g f) i < ca (cof l g f) j := fun i j hij hj => by
  rw [cof_len] at hj
  rw [(cof_at (by omega)).1, (cof_at hj).1]
  exact List.pairwise_iff_getElem.mp h i j (by omega) hj hij
theorem cof_cls {l : List Nat} {g f : Nat → Nat} {k : Nat} (h : l.Pairwise fun i j => g i < g j) (hl : l.length ≤ 32) (hg : ∀ i ∈ l, g i < 2 ^ k) (hf : ∀ i ∈ l, f i < 2 ^ k) : Cls k (cof l g f) := by
  refine ⟨fun i hi => ?_, fun i hi => ?_, fun i j hij hj => ?_, by rw [cof_len]; exact hl⟩
  · rw [cof_len] at hi
    rw [(cof_at hi).1]
    exact hg _ (List.getElem_mem hi)
  · rw [cof_len] at hi
    rw [(cof_at hi).2]
    exact hf _ (List.getElem_mem hi)
  · exact Nat.ne_of_lt (cof_asc h i j hij hj)
theorem range_asc (n : Nat) : (List.range n).Pairwise fun i j => i < j := List.pairwise_lt_range
theorem ap_of {k : Nat} {c : List (Nat × Nat)} (h : ∀ i j, i < j → j < c.length → ∀ s, s ≤ k → ol k (ca c i) (cb' c i) s ≠ ol k (ca c j) (cb' c j) s) : AllAp (ways k c) := by
  intro a b hab hb t ht
  rw [ways_len] at hb
  rw [ways_at (by omega), ow_len] at ht
  rw [ways_at (by omega), ways_at hb, ow_at ht, ow_at ht]
  exact h a b hab hb (t + 1) ht
theorem ap_paper {k : Nat} {c : List (Nat × Nat)} (h1 : 1 ≤ k) (hk : k ≤ 5) (C : Cls k c) (h : AllAp (ways k c)) : ∃ T, Fomega_paper [.int (k : Int), cN c] = .ok (.tuple [.str "settings", tN T]) := by
  rcases f_paper h1 hk C with ⟨T, e, _⟩ | ⟨a, b, t, g1, g2, g3, g4, _⟩
  · exact ⟨T, e⟩
  · exact absurd g4 (h a b g1 (by rw [ways_len]; exact g2) t (by rw [ways_at (by omega), ow_len]; exact g3))
/-! ### draws -/
def dN (l : List Int) (i : Nat) : Nat := (dv l i).toNat
theorem dN_at {l : List Int} (hd : Dr l) {i : Nat} (h : i < l.length) : ixD (iL l) (.int (i : Int)) = .ok (.int (dN l i : Int)) := by
  rw [dv_at h]
  congr 2
  have := hd (dv l i) (by unfold dv; rw [getD_in _ h]; exact List.getElem_mem h)
  unfold dN
  omega
theorem map_erase {α β : Type} (f : α → β) : ∀ (l : List α) (m : Nat), (l.map f).eraseIdx m = (l.eraseIdx m).map f
  | [], _ => rfl
  | _ :: _, 0 => rfl
  | x :: l, m + 1 => by
    show f x :: (l.map f).eraseIdx m = f x :: (l.eraseIdx m).map f
    rw [map_erase f l m]
theorem erase_perm {α : Type} : ∀ (l : List α) {m : Nat} (h : m < l.length), (l[m] :: l.eraseIdx m).Perm l
  | x :: l, 0, _ => .refl _
  | x :: l, m + 1, h => by
    show (l[m]'(by simpa using h) :: x :: l.eraseIdx m).Perm (x :: l)
    exact (List.Perm.swap x _ _).trans ((erase_perm l (by simpa using h)).cons x)
theorem q_apo {i j m : Nat} {e : E} {δ : Sl} {o f : List Nat} (h1 : slotD δ i = .ok (iN o)) (h2 : slotD δ j = .ok (iN f)) (h3 : ev e δ = .ok (.int (m : Int))) (hm : m < f.length) (hl : o.length < 1000000) :
    sev (.apo i j e) δ = .nx ((δ.set j (some (iN (f.eraseIdx m)))).set i (some (iN (o ++ [f.getD m 0])))) := by
  have sl : ∀ {i : Nat} {l : List Nat}, slotD δ i = .ok (iN l) → slotL δ i = .ok (l.map fun (c : Nat) => PyData.int (c : Int)) := fun {i l} h => by
    unfold slotD at h
    split at h
    · rename_i d e
      cases h
      unfold slotL
      rw [e]
      rfl
    · cases h
  have ep : popIx (f.map fun (c : Nat) => PyData.int (c : Int)) (.int (m : Int)) = .ok ((f.eraseIdx m).map fun (c : Nat) => PyData.int (c : Int), .int ((f.getD m 0 : Nat) : Int)) := by
    unfold popIx
    have e1 : stepD (f.map fun (c : Nat) => PyData.int (c : Int)) (.int (m : Int)) = some m := by
      show ixN _ _ = _
      exact ixNn (by rw [List.length_map]; exact hm)
    rw [e1]
    have e2 : (f.map fun (c : Nat) => PyData.int (c : Int))[m]? = some (.int ((f.getD m 0 : Nat) : Int)) := by
      rw [List.getElem?_map, List.getElem?_eq_getElem hm, getD_in _ hm]; rfl
    simp only [e2]
    rw [if_pos (q_ci _), map_erase]
  show (lft δ (nox (slotL δ i)) fun zs => lft δ (nox (slotL δ j)) fun xs => lft δ (ev e δ) fun k => lft δ (nox (popIx xs k)) fun p =>
    if zs.length < sizeLine then .nx ((δ.set j (some (.list p.1))).set i (some (.list (zs ++ [p.2])))) else .no) = _
  rw [sl h1, sl h2, q_nox, q_lok, q_nox, q_lok, h3, q_lok, ep, q_nox, q_lok, if_pos (szl (by rw [List.length_map]; exact hl))]
  unfold iN
  rw [List.map_append]
  rfl
theorem f_order {d : List Int} (hd : Dr d) {n : Nat} (hn : n ≤ 32) (hl : 36 ≤ d.length) : ∃ o, F_law_order [iL d, .int 3, .int (n : Int)] = .ok (iN o) ∧ o.Perm (List.range n) := by
  have main : ∃ o, sev T_law_order [some (iL d), some (.int 3), some (.int (n : Int)), none, none, none] = .rt (iN o) ∧ o.Perm (List.range n) := by
    unfold T_law_order
    have el := q_lrg (n := n) (by omega)
    have s1 : sev (.asg (.one 3) (.pr1 .lrg (.sl 2))) [some (iL d), some (.int 3), some (.int (n : Int)), none, none, none] = .nx [some (iL d), some (.int 3), some (.int (n : Int)), some (iN (List.range n)), none, none] := by
      simp only [List.set_cons_succ, List.set_cons_zero, q_sasg, q_spar, q_sret, q_sretS, q_sife, q_snil, q_tn, q_tr, q_lst, q_tup, q_call, q_cons, q_nil, q_cI, q_ari, q_ix, q_sl, q_s0, q_s1, q_ki, q_kn, q_kb, q_ks, q_neg, q_negD, q_ci, q_cb, q_cs, q_cn, if_true, q_ok, q_ii, q_or, q_and, q_one, q_not, q_cmp, q_eq, q_ne, q_lt, q_le, q_gt, q_ge, q_is, q_isnot, q_isnN, q_isnI, q_isnL, q_isnT, q_notR, q_boolD, Bool.not_true, Bool.not_false, List.length_cons, List.length_nil, sz (show 0 ≤ 1000000 by decide), sz (show 0 + 1 ≤ 1000000 by decide), sz (show 0 + 1 + 1 ≤ 1000000 by decide), q_lok, q_t1, q_t2, q_t3, q_t4, q_blt, q_blt1, q_blt2, q_eqi, q_pr1, el]
    have s2 : sev (.asg (.one 4) (.lst .nil)) [some (iL d), some (.int 3), some (.int (n : Int)), some (iN (List.range n)), none, none] = .nx [some (iL d), some (.int 3), some (.int (n : Int)), some (iN (List.range n)), some (iN []), none] := by
      simp only [List.set_cons_succ, List.set_cons_zero, q_sasg, q_spar, q_sret, q_sretS, q_sife, q_snil, q_tn, q_tr, q_lst, q_tup, q_call, q_cons, q_nil, q_cI, q_ari, q_ix, q_sl, q_s0, q_s1, q_ki, q_kn, q_kb, q_ks, q_neg, q_negD, q_ci, q_cb, q_cs, q_cn, if_true, q_ok, q_ii, q_or, q_and, q_one, q_not, q_cmp, q_eq, q_ne, q_lt, q_le, q_gt, q_ge, q_is, q_isnot, q_isnN, q_isnI, q_isnL, q_isnT, q_notR, q_boolD, Bool.not_true, Bool.not_false, List.length_cons, List.length_nil, sz (show 0 ≤ 1000000 by decide), sz (show 0 + 1 ≤ 1000000 by decide), sz (show 0 + 1 + 1 ≤ 1000000 by decide), q_lok, q_t1, q_t2, q_t3, q_t4, q_blt, q_blt1, q_blt2, q_eqi]; rfl
    obtain ⟨δ', e, f, o, x, rfl, h1, h2⟩ := s_range (i := 5) (a := .sl 2) (τ := [some (.S, true), some (.S, true), some (.S, true), some (.F, false), some (.F, false), some (.F, false)]) (s := (.seq (.apo 4 3 (.ari .Mod (.ari .FloorDiv (.ix (.sl 0) (.ari .Add (.sl 1) (.sl 5))) (.ari .Add (.k (.int 1)) (.ari .FloorDiv (.sl 5) (.k (.int 7))))) (.blt .len (.cons (.sl 3) .nil)))) .nil)) (δ := [some (iL d), some (.int 3), some (.int (n : Int)), some (iN (List.range n)), some (iN []), none]) (n := (n : Int)) rfl (by omega) (by omega)
      (fun t δ => ∃ f o x, δ = [some (iL d), some (.int 3), some (.int (n : Int)), some (iN f), some (iN o), x] ∧ (o ++ f).Perm (List.range n) ∧ o.length = t) ⟨_, _, _, rfl, .refl _, rfl⟩ (fun t δ ht hI => by
        obtain ⟨f, o, x, rfl, h1, h2⟩ := hI
        have ht : t < n := by omega
        have lf := h1.length_eq
        rw [List.length_append, List.length_range] at lf
        have a1 := dN_at hd (i := 3 + t) (by omega)
        have e1 : aOp .Add 3 (t : Int) = .ok (.int ((3 + t : Nat) : Int)) := n_add 3 t
        have e2 : aOp .FloorDiv (t : Int) 7 = .ok (.int ((t / 7 : Nat) : Int)) := n_div t (m := 7) (by decide) (by decide)
        have e3 : aOp .Add 1 ((t / 7 : Nat) : Int) = .ok (.int ((1 + t / 7 : Nat) : Int)) := n_add 1 (t / 7)
        have e4 := n_div (dN d (3 + t)) (m := 1 + t / 7) (by omega) (l64 (by omega))
        have e5 := n_mod (dN d (3 + t) / (1 + t / 7)) (m := f.length) (by omega)
        have hm := Nat.mod_lt (dN d (3 + t) / (1 + t / 7)) (show 0 < f.length by omega)
        refine ⟨_, sq (q_apo (o := o) (f := f) (m := dN d (3 + t) / (1 + t / 7) % f.length) rfl rfl ?_ hm (by omega)) rfl, _, _, _, rfl, ?_, by rw [List.length_append, h2]; rfl⟩
        · simp only [List.set_cons_succ, List.set_cons_zero, List.set_cons_succ, List.set_cons_zero, q_sasg, q_spar, q_sret, q_sretS, q_sife, q_snil, q_tn, q_tr, q_lst, q_tup, q_call, q_cons, q_nil, q_cI, q_ari, q_ix, q_sl, q_s0, q_s1, q_ki, q_kn, q_kb, q_ks, q_neg, q_negD, q_ci, q_cb, q_cs, q_cn, if_true, q_ok, q_ii, q_or, q_and, q_one, q_not, q_cmp, q_eq, q_ne, q_lt, q_le, q_gt, q_ge, q_is, q_isnot, q_isnN, q_isnI, q_isnL, q_isnT, q_notR, q_boolD, Bool.not_true, Bool.not_false, List.length_cons, List.length_nil, sz (show 0 ≤ 1000000 by decide), sz (show 0 + 1 ≤ 1000000 by decide), sz (show 0 + 1 + 1 ≤ 1000000 by decide), q_lok, q_t1, q_t2, q_t3, q_t4, q_blt, q_blt1, q_blt2, q_eqi, e1, a1, e2, e3, e4, iN_len, e5]
        · generalize dN d (3 + t) / (1 + t / 7) % f.length = m at *
          refine List.Perm.trans ?_ h1
          rw [List.append_assoc]
          refine List.Perm.append_left _ ?_
          rw [List.singleton_append, getD_in _ hm]
          exact erase_perm f hm)
    have h2 : o.length = n := by omega
    have lf := h1.length_eq
    rw [List.length_append, List.length_range] at lf
    have : f = [] := List.length_eq_zero_iff.mp (by omega)
    subst this
    rw [List.append_nil] at h1
    exact ⟨o, sq s1 (sq s2 (sq e (sqx rfl))), h1⟩
  obtain ⟨o, e, h⟩ := main
  exact ⟨o, F_rt (s := T_law_order) (δ := [some (iL d), some (.int 3), some (.int (n : Int)), none, none, none]) rfl rfl e, h⟩
end VS
set_option Elab.async false
set_option linter.all false
set_option maxRecDepth 100000
namespace VS
open PySem PySem.Spec L2
open PyProof.Rows hiding St
theorem f_rising {k : Nat} {c : List (Nat × Nat)} (hl : c.length ≤ 32) (h : ∀ i, i + 1 < c.length → ca c (i + 1) = ca c i + 1 ∧ cb' c i < cb' c (i + 1)) : Fis_close_and_rising [.int (k : Int), cN c] = .ok (.bool true) := by
  refine F_rt (s := Tis_close_and_rising) (δ := [some (.int (k : Int)), some (cN c), none]) rfl rfl ?_
  unfold Tis_close_and_rising
  refine sq_for ((List.range (c.length - 1)).map fun (i : Nat) => PyData.int ((1 + i : Nat) : Int)) (ev_rng2 rfl (by simp only [List.set_cons_succ, List.set_cons_zero, q_sasg, q_spar, q_sret, q_sretS, q_sife, q_snil, q_tn, q_tr, q_lst, q_tup, q_call, q_cons, q_nil, q_cI, q_ari, q_ix, q_sl, q_s0, q_s1, q_ki, q_kn, q_kb, q_ks, q_neg, q_negD, q_ci, q_cb, q_cs, q_cn, if_true, q_ok, q_ii, q_or, q_and, q_one, q_not, q_cmp, q_eq, q_ne, q_lt, q_le, q_gt, q_ge, q_is, q_isnot, q_isnN, q_isnI, q_isnL, q_isnT, q_notR, q_boolD, Bool.not_true, Bool.not_false, List.length_cons, List.length_nil, sz (show 0 ≤ 1000000 by decide), sz (show 0 + 1 ≤ 1000000 by decide), sz (show 0 + 1 + 1 ≤ 1000000 by decide), q_lok, q_t1, q_t2, q_t3, q_t4, q_blt, q_blt1, q_blt2, q_eqi, cN_len]) (by omega) (by omega)) (by rw [immL_rngN]; rfl) (fun i δ => ∃ x, δ = [some (.int (k : Int)), some (cN c), x]) ⟨_, rfl⟩ (fun i δ hi hI => ?_) (fun δ' hI => ?_)
  · obtain ⟨x, rfl⟩ := hI
    have hi : i < c.length - 1 := by simpa using hi
    rw [List.getElem_map, List.getElem_range, Nat.add_comm]
    have a1 := cN_at (c := c) (i := i + 1) (by omega)
    have a0 := cN_at (c := c) (i := i) (by omega)
    have s1 := n_sub1 (a := i + 1) (by omega)
    rw [Nat.add_sub_cancel] at s1
    obtain ⟨h1, h2⟩ := h i (by omega)
    have h1 : (c.getD (i + 1) (0, 0)).1 = (c.getD i (0, 0)).1 + 1 := h1
    have h2 : (c.getD i (0, 0)).2 < (c.getD (i + 1) (0, 0)).2 := h2
    have e1 := n_add1 (c.getD i (0, 0)).1
    refine ⟨_, _, rfl, sq (δ1 := [some (.int (k : Int)), some (cN c), some (.int ((i + 1 : Nat) : Int))]) ?_ rfl, _, rfl⟩
    simp only [List.set_cons_succ, List.set_cons_zero, q_sasg, q_spar, q_sret, q_sretS, q_sife, q_snil, q_tn, q_tr, q_lst, q_tup, q_call, q_cons, q_nil, q_cI, q_ari, q_ix, q_sl, q_s0, q_s1, q_ki, q_kn, q_kb, q_ks, q_neg, q_negD, q_ci, q_cb, q_cs, q_cn, if_true, q_ok, q_ii, q_or, q_and, q_one, q_not, q_cmp, q_eq, q_ne, q_lt, q_le, q_gt, q_ge, q_is, q_isnot, q_isnN, q_isnI, q_isnL, q_isnT, q_notR, q_boolD, Bool.not_true, Bool.not_false, List.length_cons, List.length_nil, sz (show 0 ≤ 1000000 by decide), sz (show 0 + 1 ≤ 1000000 by decide), sz (show 0 + 1 + 1 ≤ 1000000 by decide), q_lok, q_t1, q_t2, q_t3, q_t4, q_blt, q_blt1, q_blt2, q_eqi, a1, a0, s1, p_0, p_1, e1, h1, eq_cast, decide_true, show decide (((c.getD (i + 1) (0, 0)).2 : Int) ≤ ((c.getD i (0, 0)).2 : Int)) = false from decide_eq_false (by omega)]
  · obtain ⟨x, rfl⟩ := hI
    exact sqx rfl
def shf (k j c a : Nat) : Nat := ((((a * (2 * j + 1) : Nat) : Int) + ((c : Int) - 20)) % ((2 ^ k : Nat) : Int)).toNat
theorem shf_eq {k j c a : Nat} (hk : k ≤ 5) : shf k j c a = (a * (2 * j + 1) + (c + 12)) % 2 ^ k := by
  have h32 : ∃ q, 32 = 2 ^ k * q := ⟨2 ^ (5 - k), by rw [← Nat.pow_add, show k + (5 - k) = 5 by omega]⟩
  obtain ⟨q, hq⟩ := h32
  unfold shf
  have e : ((a * (2 * j + 1) + (c + 12) : Nat) : Int) = (((a * (2 * j + 1) : Nat) : Int) + ((c : Int) - 20)) + ((2 ^ k : Nat) : Int) * (q : Int) := by
    have : ((2 ^ k : Nat) : Int) * (q : Int) = 32 := by rw [← Int.natCast_mul, ← hq]; rfl
    rw [this]
    omega
  have e2 := Int.add_mul_emod_self_left (((a * (2 * j + 1) : Nat) : Int) + ((c : Int) - 20)) ((2 ^ k : Nat) : Int) (q : Int)
  rw [← e] at e2
  rw [← e2]
  rfl
theorem shf_int {k j c a : Nat} : (((a * (2 * j + 1) : Nat) : Int) + ((c : Int) - 20)) % ((2 ^ k : Nat) : Int) = (shf k j c a : Int) := by
  have : 0 ≤ (((a * (2 * j + 1) : Nat) : Int) + ((c : Int) - 20)) % ((2 ^ k : Nat) : Int) := Int.emod_nonneg _ (by have := Nat.two_pow_pos k; omega)
  unfold shf
  omega
theorem f_shift {k j c : Nat} (hk : k ≤ 5) : Fshift_calls [.int (k : Int), .int ((2 * j + 1 : Nat) : Int), .int ((c : Int) - 20)] = .ok (cN (cof (List.range (2 ^ k)) (fun a => a) (shf k j c))) := by
  have p1 := p5 hk
  have e0 := n_shl (k := k) (by omega)
  refine F_rt (s := Tshift_calls) (δ := [some (.int (k : Int)), some (.int ((2 * j + 1 : Nat) : Int)), some (.int ((c : Int) - 20)), none, none]) rfl rfl ?_
  unfold Tshift_calls
  refine sq (δ1 := [some (.int (k : Int)), some (.int ((2 * j + 1 : Nat) : Int)), some (.int ((c : Int) - 20)), some (.int ((2 ^ k : Nat) : Int)), none]) (by simp only [List.set_cons_succ, List.set_cons_zero, q_sasg, q_spar, q_sret, q_sretS, q_sife, q_snil, q_tn, q_tr, q_lst, q_tup, q_call, q_cons, q_nil, q_cI, q_ari, q_ix, q_sl, q_s0, q_s1, q_ki, q_kn, q_kb, q_ks, q_neg, q_negD, q_ci, q_cb, q_cs, q_cn, if_true, q_ok, q_ii, q_or, q_and, q_one, q_not, q_cmp, q_eq, q_ne, q_lt, q_le, q_gt, q_ge, q_is, q_isnot, q_isnN, q_isnI, q_isnL, q_isnT, q_notR, q_boolD, Bool.not_true, Bool.not_false, List.length_cons, List.length_nil, sz (show 0 ≤ 1000000 by decide), sz (show 0 + 1 ≤ 1000000 by decide), sz (show 0 + 1 + 1 ≤ 1000000 by decide), q_lok, q_t1, q_t2, q_t3, q_t4, q_blt, q_blt1, q_blt2, q_eqi, e0]) (sqx ?_)
  rw [q_sret, ev_comp (List.range (2 ^ k)) (fun (i : Nat) => PyData.int (i : Int)) (fun a => pN (a, shf k j c a)) (ev_rng1 (n := 2 ^ k) rfl (by omega)) fun a ha => ⟨_, rfl, ?_⟩]
  · unfold cN cof
    rw [List.map_map]
    rfl
  · have ha := List.mem_range.mp ha
    have e1 := n_mul (a := a) (2 * j + 1) (l64 (by omega))
    have e2 := q_add ((a * (2 * j + 1) : Nat) : Int) ((c : Int) - 20)
    have e3 := q_mod (i := ((a * (2 * j + 1) : Nat) : Int) + ((c : Int) - 20)) (j := ((2 ^ k : Nat) : Int)) (by omega)
    rw [shf_int] at e3
    simp only [q_w1, q_w0, List.map_cons, List.map_nil, List.set_cons_succ, List.set_cons_zero, q_sasg, q_spar, q_sret, q_sretS, q_sife, q_snil, q_tn, q_tr, q_lst, q_tup, q_call, q_cons, q_nil, q_cI, q_ari, q_ix, q_sl, q_s0, q_s1, q_ki, q_kn, q_kb, q_ks, q_neg, q_negD, q_ci, q_cb, q_cs, q_cn, if_true, q_ok, q_ii, q_or, q_and, q_one, q_not, q_cmp, q_eq, q_ne, q_lt, q_le, q_gt, q_ge, q_is, q_isnot, q_isnN, q_isnI, q_isnL, q_isnT, q_notR, q_boolD, Bool.not_true, Bool.not_false, List.length_cons, List.length_nil, sz (show 0 ≤ 1000000 by decide), sz (show 0 + 1 ≤ 1000000 by decide), sz (show 0 + 1 + 1 ≤ 1000000 by decide), q_lok, q_t1, q_t2, q_t3, q_t4, q_blt, q_blt1, q_blt2, q_eqi, e1, e2, e3]
    rfl
def sN (l : List Nat) : List Nat := (srtI (l.map fun (c : Nat) => (c : Int))).map Int.toNat
theorem sN_int (l : List Nat) : (sN l).map (fun (c : Nat) => (c : Int)) = srtI (l.map fun (c : Nat) => (c : Int)) := by
  unfold sN
  rw [List.map_map]
  refine Eq.trans (List.map_congr_left fun a ha => ?_) (List.map_id _)
  rw [(srtI_perm _).mem_iff] at ha
  obtain ⟨c, _, rfl⟩ := List.mem_map.mp ha
  rfl
theorem sN_perm (l : List Nat) : (sN l).Perm l := by
  have h := (srtI_perm (l.map fun (c : Nat) => (c : Int))).map Int.toNat
  rw [List.map_map, show (Int.toNat ∘ fun (c : Nat) => (c : Int)) = id from funext fun c => Int.toNat_natCast c, List.map_id] at h
  exact h
theorem sN_asc {l : List Nat} (h : l.Nodup) : (sN l).Pairwise fun i j => i < j := by
  have h1 := srtI_sorted (l.map fun (c : Nat) => (c : Int))
  rw [← sN_int] at h1
  have h1 := List.pairwise_map.mp h1
  have h2 : (sN l).Nodup := (sN_perm l).nodup_iff.mpr h
  exact (List.Pairwise.and h1 h2).imp fun ⟨a, b⟩ => by omega
theorem q_srt (l : List Nat) : p1D .srt (iN l) = .ok (iN (sN l)) := by
  have e : intsD (l.map fun (c : Nat) => PyData.int (c : Int)) = .ok (l.map fun (c : Nat) => (c : Int)) := by
    have := intsD_map (l.map fun (c : Nat) => (c : Int))
    rw [List.map_map] at this
    exact this
  show (intsD (l.map fun (c : Nat) => PyData.int (c : Int)) >>= fun l => R.ok (PyData.list ((srtI l).map fun i => .int i))) = _
  rw [e, q_ok, ← sN_int, List.map_map]
  rfl
theorem q_isnb (a b : Bool) : cmpD .IsNot (.bool a) (.bool b) = .ok (!decide (a = b)) := rfl
theorem q_isb (a b : Bool) : cmpD .Is (.bool a) (.bool b) = .ok (decide (a = b)) := rfl
theorem hlaw94 (ns : List Int) (hns : ns.length ≤ 63) : Flaw [.list (ns.map fun i => PyData.int i)] = .ok (.bool true) := by
  obtain ⟨d, ed, ld, hd⟩ := f_draws ns hns 60 (by decide)
  have dat : ∀ i : Nat, i < 60 → ixD (iL d) (.int (i : Int)) = .ok (.int (dN d i : Int)) := fun i hi => dN_at hd (by omega)
  let k := if dN d 1 % 16 = 5 then 4 + dN d 2 % 2 else 1 + dN d 0 % 3
  have hk1 : 1 ≤ k := by show 1 ≤ (if dN d 1 % 16 = 5 then 4 + dN d 2 % 2 else 1 + dN d 0 % 3); split <;> omega
  have hk5 : k ≤ 5 := by show (if dN d 1 % 16 = 5 then 4 + dN d 2 % 2 else 1 + dN d 0 % 3) ≤ 5; split <;> omega
  have d0 : ixD (iL d) (.int 0) = .ok (.int (dN d 0 : Int)) := dat 0 (by decide)
  have d1 : ixD (iL d) (.int 1) = .ok (.int (dN d 1 : Int)) := dat 1 (by decide)
  have d2 : ixD (iL d) (.int 2) = .ok (.int (dN d 2 : Int)) := dat 2 (by decide)
  have d40 : ixD (iL d) (.int 40) = .ok (.int (dN d 40 : Int)) := dat 40 (by decide)
  have d41 : ixD (iL d) (.int 41) = .ok (.int (dN d 41 : Int)) := dat 41 (by decide)
  have d42 : ixD (iL d) (.int 42) = .ok (.int (dN d 42 : Int)) := dat 42 (by decide)
  have d43 : ixD (iL d) (.int 43) = .ok (.int (dN d 43 : Int)) := dat 43 (by decide)
  refine F_rt (s := Tlaw) (δ := [some (iL ns), none, none, none, none, none, none, none, none, none, none, none, none, none]) rfl rfl ?_
  unfold Tlaw
  refine sq (δ1 := [some (iL ns), some (iL d), none, none, none, none, none, none, none, none, none, none, none, none]) (by
    have ed : F_law_draws [iL ns, .int 60] = .ok (iL d) := ed
    simp only [List.set_cons_succ, List.set_cons_zero, q_sasg, q_spar, q_sret, q_sretS, q_sife, q_snil, q_tn, q_tr, q_lst, q_tup, q_call, q_cons, q_nil, q_cI, q_ari, q_ix, q_sl, q_s0, q_s1, q_ki, q_kn, q_kb, q_ks, q_neg, q_negD, q_ci, q_cb, q_cs, q_cn, if_true, q_ok, q_ii, q_or, q_and, q_one, q_not, q_cmp, q_eq, q_ne, q_lt, q_le, q_gt, q_ge, q_is, q_isnot, q_isnN, q_isnI, q_isnL, q_isnT, q_notR, q_boolD, Bool.not_true, Bool.not_false, List.length_cons, List.length_nil, sz (show 0 ≤ 1000000 by decide), sz (show 0 + 1 ≤ 1000000 by decide), sz (show 0 + 1 + 1 ≤ 1000000 by decide), q_lok, q_t1, q_t2, q_t3, q_t4, q_blt, q_blt1, q_blt2, q_eqi, ed]) ?_
  have e3 : aOp .Mod (dN d 0 : Int) 3 = .ok (.int ((dN d 0 % 3 : Nat) : Int)) := n_mod _ (m := 3) (by decide)
  have e4 : aOp .Add 1 ((dN d 0 % 3 : Nat) : Int) = .ok (.int ((1 + dN d 0 % 3 : Nat) : Int)) := n_add 1 _
  have e5 : aOp .Mod (dN d 1 : Int) 16 = .ok (.int ((dN d 1 % 16 : Nat) : Int)) := n_mod _ (m := 16) (by decide)
  have e6 := n_mod2 (dN d 2)
  have e7 : aOp .Add 4 ((dN d 2 % 2 : Nat) : Int) = .ok (.int ((4 + dN d 2 % 2 : Nat) : Int)) := n_add 4 _
  refine sq (δ1 := [some (iL ns), some (iL d), some (.int ((1 + dN d 0 % 3 : Nat) : Int)), none, none, none, none, none, none, none, none, none, none, none]) (by simp only [List.set_cons_succ, List.set_cons_zero, q_sasg, q_spar, q_sret, q_sretS, q_sife, q_snil, q_tn, q_tr, q_lst, q_tup, q_call, q_cons, q_nil, q_cI, q_ari, q_ix, q_sl, q_s0, q_s1, q_ki, q_kn, q_kb, q_ks, q_neg, q_negD, q_ci, q_cb, q_cs, q_cn, if_true, q_ok, q_ii, q_or, q_and, q_one, q_not, q_cmp, q_eq, q_ne, q_lt, q_le, q_gt, q_ge, q_is, q_isnot, q_isnN, q_isnI, q_isnL, q_isnT, q_notR, q_boolD, Bool.not_true, Bool.not_false, List.length_cons, List.length_nil, sz (show 0 ≤ 1000000 by decide), sz (show 0 + 1 ≤ 1000000 by decide), sz (show 0 + 1 + 1 ≤ 1000000 by decide), q_lok, q_t1, q_t2, q_t3, q_t4, q_blt, q_blt1, q_blt2, q_eqi, d0, e3, e4]) ?_
  have eq5 : decide (((dN d 1 % 16 : Nat) : Int) = 5) = decide (dN d 1 % 16 = 5) := eq_cast (dN d 1 % 16) 5
  refine sq (δ1 := [some (iL ns), some (iL d), some (.int (k : Int)), none, none, none, none, none, none, none, none, none, none, none]) (by
    by_cases c : dN d 1 % 16 = 5
    · rw [show k = 4 + dN d 2 % 2 from if_pos c]
      simp only [List.set_cons_succ, List.set_cons_zero, q_sasg, q_spar, q_sret, q_sretS, q_sife, q_snil, q_tn, q_tr, q_lst, q_tup, q_call, q_cons, q_nil, q_cI, q_ari, q_ix, q_sl, q_s0, q_s1, q_ki, q_kn, q_kb, q_ks, q_neg, q_negD, q_ci, q_cb, q_cs, q_cn, if_true, q_ok, q_ii, q_or, q_and, q_one, q_not, q_cmp, q_eq, q_ne, q_lt, q_le, q_gt, q_ge, q_is, q_isnot, q_isnN, q_isnI, q_isnL, q_isnT, q_notR, q_boolD, Bool.not_true, Bool.not_false, List.length_cons, List.length_nil, sz (show 0 ≤ 1000000 by decide), sz (show 0 + 1 ≤ 1000000 by decide), sz (show 0 + 1 + 1 ≤ 1000000 by decide), q_lok, q_t1, q_t2, q_t3, q_t4, q_blt, q_blt1, q_blt2, q_eqi, d1, e5, eq5, decide_eq_true c]
      exact sq (δ1 := [some (iL ns), some (iL d), some (.int ((4 + dN d 2 % 2 : Nat) : Int)), none, none, none, none, none, none, none, none, none, none, none]) (by simp only [List.set_cons_succ, List.set_cons_zero, q_sasg, q_spar, q_sret, q_sretS, q_sife, q_snil, q_tn, q_tr, q_lst, q_tup, q_call, q_cons, q_nil, q_cI, q_ari, q_ix, q_sl, q_s0, q_s1, q_ki, q_kn, q_kb, q_ks, q_neg, q_negD, q_ci, q_cb, q_cs, q_cn, if_true, q_ok, q_ii, q_or, q_and, q_one, q_not, q_cmp, q_eq, q_ne, q_lt, q_le, q_gt, q_ge, q_is, q_isnot, q_isnN, q_isnI, q_isnL, q_isnT, q_notR, q_boolD, Bool.not_true, Bool.not_false, List.length_cons, List.length_nil, sz (show 0 ≤ 1000000 by decide), sz (show 0 + 1 ≤ 1000000 by decide), sz (show 0 + 1 + 1 ≤ 1000000 by decide), q_lok, q_t1, q_t2, q_t3, q_t4, q_blt, q_blt1, q_blt2, q_eqi, d2, e6, e7]) rfl
    · rw [show k = 1 + dN d 0 % 3 from if_neg c]
      simp only [List.set_cons_succ, List.set_cons_zero, q_sasg, q_spar, q_sret, q_sretS, q_sife, q_snil, q_tn, q_tr, q_lst, q_tup, q_call, q_cons, q_nil, q_cI, q_ari, q_ix, q_sl, q_s0, q_s1, q_ki, q_kn, q_kb, q_ks, q_neg, q_negD, q_ci, q_cb, q_cs, q_cn, if_true, q_ok, q_ii, q_or, q_and, q_one, q_not, q_cmp, q_eq, q_ne, q_lt, q_le, q_gt, q_ge, q_is, q_isnot, q_isnN, q_isnI, q_isnL, q_isnT, q_notR, q_boolD, Bool.not_true, Bool.not_false, List.length_cons, List.length_nil, sz (show 0 ≤ 1000000 by decide), sz (show 0 + 1 ≤ 1000000 by decide), sz (show 0 + 1 + 1 ≤ 1000000 by decide), q_lok, q_t1, q_t2, q_t3, q_t4, q_blt, q_blt1, q_blt2, q_eqi, d1, e5, eq5, decide_eq_false c]) ?_
  clear_value k
  have p1 := p5 hk5
  have p2 : 1 < 2 ^ k := Nat.one_lt_two_pow (by omega)
  have f0 := n_shl (k := k) (by omega)
  have f1 := f_nets hk5
  obtain ⟨o, f2, ho⟩ := f_order hd (n := 2 ^ k) (by omega) (by omega)
  have olen : o.length = 2 ^ k := by have := ho.length_eq; simpa using this
  have olt : ∀ x ∈ o, x < 2 ^ k := fun x hx => List.mem_range.mp (ho.mem_iff.mp hx)
  have oat : ∀ a, a < 2 ^ k → o.getD a 0 < 2 ^ k := fun a ha => by
    have ha : a < o.length := by omega
    rw [getD_in _ ha]; exact olt _ (List.getElem_mem ha)
  have ond : o.Nodup := ho.nodup_iff.mpr List.nodup_range
  refine sq (δ1 := [some (iL ns), some (iL d), some (.int (k : Int)), some (.int ((2 ^ k : Nat) : Int)), none, none, none, none, none, none, none, none, none, none]) (by simp only [List.set_cons_succ, List.set_cons_zero, q_sasg, q_spar, q_sret, q_sretS, q_sife, q_snil, q_tn, q_tr, q_lst, q_tup, q_call, q_cons, q_nil, q_cI, q_ari, q_ix, q_sl, q_s0, q_s1, q_ki, q_kn, q_kb, q_ks, q_neg, q_negD, q_ci, q_cb, q_cs, q_cn, if_true, q_ok, q_ii, q_or, q_and, q_one, q_not, q_cmp, q_eq, q_ne, q_lt, q_le, q_gt, q_ge, q_is, q_isnot, q_isnN, q_isnI, q_isnL, q_isnT, q_notR, q_boolD, Bool.not_true, Bool.not_false, List.length_cons, List.length_nil, sz (show 0 ≤ 1000000 by decide), sz (show 0 + 1 ≤ 1000000 by decide), sz (show 0 + 1 + 1 ≤ 1000000 by decide), q_lok, q_t1, q_t2, q_t3, q_t4, q_blt, q_blt1, q_blt2, q_eqi, f0]) ?_
  refine sq (δ1 := [some (iL ns), some (iL d), some (.int (k : Int)), some (.int ((2 ^ k : Nat) : Int)), some (bN (nets k)), none, none, none, none, none, none, none, none, none]) (by simp only [List.set_cons_succ, List.set_cons_zero, q_sasg, q_spar, q_sret, q_sretS, q_sife, q_snil, q_tn, q_tr, q_lst, q_tup, q_call, q_cons, q_nil, q_cI, q_ari, q_ix, q_sl, q_s0, q_s1, q_ki, q_kn, q_kb, q_ks, q_neg, q_negD, q_ci, q_cb, q_cs, q_cn, if_true, q_ok, q_ii, q_or, q_and, q_one, q_not, q_cmp, q_eq, q_ne, q_lt, q_le, q_gt, q_ge, q_is, q_isnot, q_isnN, q_isnI, q_isnL, q_isnT, q_notR, q_boolD, Bool.not_true, Bool.not_false, List.length_cons, List.length_nil, sz (show 0 ≤ 1000000 by decide), sz (show 0 + 1 ≤ 1000000 by decide), sz (show 0 + 1 + 1 ≤ 1000000 by decide), q_lok, q_t1, q_t2, q_t3, q_t4, q_blt, q_blt1, q_blt2, q_eqi, f1]) ?_
  refine sq (δ1 := [some (iL ns), some (iL d), some (.int (k : Int)), some (.int ((2 ^ k : Nat) : Int)), some (bN (nets k)), some (iN o), none, none, none, none, none, none, none, none]) (by simp only [List.set_cons_succ, List.set_cons_zero, q_sasg, q_spar, q_sret, q_sretS, q_sife, q_snil, q_tn, q_tr, q_lst, q_tup, q_call, q_cons, q_nil, q_cI, q_ari, q_ix, q_sl, q_s0, q_s1, q_ki, q_kn, q_kb, q_ks, q_neg, q_negD, q_ci, q_cb, q_cs, q_cn, if_true, q_ok, q_ii, q_or, q_and, q_one, q_not, q_cmp, q_eq, q_ne, q_lt, q_le, q_gt, q_ge, q_is, q_isnot, q_isnN, q_isnI, q_isnL, q_isnT, q_notR, q_boolD, Bool.not_true, Bool.not_false, List.length_cons, List.length_nil, sz (show 0 ≤ 1000000 by decide), sz (show 0 + 1 ≤ 1000000 by decide), sz (show 0 + 1 + 1 ≤ 1000000 by decide), q_lok, q_t1, q_t2, q_t3, q_t4, q_blt, q_blt1, q_blt2, q_eqi, f2]) ?_
  -- some calls
  let l1 := (List.range (2 ^ k)).filter fun a => decide (0 < dN d (36 + a % 20) / (1 + a) % 3)
  let cS := cof l1 (fun a => a) (fun a => o.getD a 0)
  have eS : ev (.comp [("a", 12)] (.one 12) (.rng1 (.sl 3)) (.prt (.cmp .Gt (.ari .Mod (.ari .FloorDiv (.ix (.sl 1) (.ari .Add (.k (.int 36)) (.ari .Mod (.sl 12) (.k (.int 20))))) (.ari .Add (.k (.int 1)) (.sl 12))) (.k (.int 3))) (.k (.int 0)))) (.tup (.cons (.cI (.sl 12)) (.cons (.cI (.ix (.sl 5) (.sl 12))) .nil)))) [some (iL ns), some (iL d), some (.int (k : Int)), some (.int ((2 ^ k : Nat) : Int)), some (bN (nets k)), some (iN o), none, none, none, none, none, none, none, none] = .ok (cN cS) := by
    rw [ev_compF (List.range (2 ^ k)) (fun (i : Nat) => PyData.int (i : Int)) (fun a => pN (a, o.getD a 0)) (fun a => decide (0 < dN d (36 + a % 20) / (1 + a) % 3)) (ev_rng1 (n := 2 ^ k) rfl (by omega)) fun a ha => ⟨_, rfl, ?_, fun _ => ?_⟩]
    · show R.ok (PyData.list (l1.map fun a => pN (a, o.getD a 0))) = R.ok (PyData.list ((l1.map fun a => (a, o.getD a 0)).map pN))
      rw [List.map_map]
      rfl
    · have ha := List.mem_range.mp ha
      have b1 : aOp .Mod (a : Int) 20 = .ok (.int ((a % 20 : Nat) : Int)) := n_mod a (m := 20) (by decide)
      have b2 : aOp .Add 36 ((a % 20 : Nat) : Int) = .ok (.int ((36 + a % 20 : Nat) : Int)) := n_add 36 _
      have b3 := dat (36 + a % 20) (by omega)
      have b4 : aOp .Add 1 (a : Int) = .ok (.int ((1 + a : Nat) : Int)) := n_add 1 _
      have b5 := n_div (dN d (36 + a % 20)) (m := 1 + a) (by omega) (l64 (by omega))
      have b6 : aOp .Mod ((dN d (36 + a % 20) / (1 + a) : Nat) : Int) 3 = .ok (.int ((dN d (36 + a % 20) / (1 + a) % 3 : Nat) : Int)) := n_mod _ (m := 3) (by decide)
      have b7 : decide ((0 : Int) < ((dN d (36 + a % 20) / (1 + a) % 3 : Nat) : Int)) = decide (0 < dN d (36 + a % 20) / (1 + a) % 3) := by rw [decide_eq_decide]; omega
      simp only [q_w1, q_w0, List.map_cons, List.map_nil, q_cprt, List.set_cons_succ, List.set_cons_zero, q_sasg, q_spar, q_sret, q_sretS, q_sife, q_snil, q_tn, q_tr, q_lst, q_tup, q_call, q_cons, q_nil, q_cI, q_ari, q_ix, q_sl, q_s0, q_s1, q_ki, q_kn, q_kb, q_ks, q_neg, q_negD, q_ci, q_cb, q_cs, q_cn, if_true, q_ok, q_ii, q_or, q_and, q_one, q_not, q_cmp, q_eq, q_ne, q_lt, q_le, q_gt, q_ge, q_is, q_isnot, q_isnN, q_isnI, q_isnL, q_isnT, q_notR, q_boolD, Bool.not_true, Bool.not_false, List.length_cons, List.length_nil, sz (show 0 ≤ 1000000 by decide), sz (show 0 + 1 ≤ 1000000 by decide), sz (show 0 + 1 + 1 ≤ 1000000 by decide), q_lok, q_t1, q_t2, q_t3, q_t4, q_blt, q_blt1, q_blt2, q_eqi, b1, b2, b3, b4, b5, b6, b7]
    · have ha := List.mem_range.mp ha
      have b1 := iN_at (l := o) (i := a) (by omega)
      simp only [q_w1, q_w0, List.map_cons, List.map_nil, List.set_cons_succ, List.set_cons_zero, q_sasg, q_spar, q_sret, q_sretS, q_sife, q_snil, q_tn, q_tr, q_lst, q_tup, q_call, q_cons, q_nil, q_cI, q_ari, q_ix, q_sl, q_s0, q_s1, q_ki, q_kn, q_kb, q_ks, q_neg, q_negD, q_ci, q_cb, q_cs, q_cn, if_true, q_ok, q_ii, q_or, q_and, q_one, q_not, q_cmp, q_eq, q_ne, q_lt, q_le, q_gt, q_ge, q_is, q_isnot, q_isnN, q_isnI, q_isnL, q_isnT, q_notR, q_boolD, Bool.not_true, Bool.not_false, List.length_cons, List.length_nil, sz (show 0 ≤ 1000000 by decide), sz (show 0 + 1 ≤ 1000000 by decide), sz (show 0 + 1 + 1 ≤ 1000000 by decide), q_lok, q_t1, q_t2, q_t3, q_t4, q_blt, q_blt1, q_blt2, q_eqi, b1]
      rfl
  have mS : ∀ a ∈ l1, a < 2 ^ k := fun a ha => List.mem_range.mp (List.mem_filter.mp ha).1
  have l1len : l1.length ≤ 2 ^ k := by have := List.length_filter_le (fun a => decide (0 < dN d (36 + a % 20) / (1 + a) % 3)) (List.range (2 ^ k)); rw [List.length_range] at this; exact this
  have pS : l1.Pairwise fun i j => i < j := (range_asc (2 ^ k)).sublist List.filter_sublist
  have CS : Cls k cS := cof_cls pS (by omega) mS fun a ha => oat a (mS a ha)
  have aS : ∀ i j, i < j → j < cS.length → ca cS i < ca cS j := cof_asc (l := l1) (g := fun a => a) (f := fun a => o.getD a 0) pS
  have lS : cS.length = l1.length := cof_len _ _ _
  clear_value l1
  refine sq (δ1 := [some (iL ns), some (iL d), some (.int (k : Int)), some (.int ((2 ^ k : Nat) : Int)), some (bN (nets k)), some (iN o), some (cN cS), none, none, none, none, none, none, none]) (by simp only [List.set_cons_succ, List.set_cons_zero, q_sasg, q_spar, q_sret, q_sretS, q_sife, q_snil, q_tn, q_tr, q_lst, q_tup, q_call, q_cons, q_nil, q_cI, q_ari, q_ix, q_sl, q_s0, q_s1, q_ki, q_kn, q_kb, q_ks, q_neg, q_negD, q_ci, q_cb, q_cs, q_cn, if_true, q_ok, q_ii, q_or, q_and, q_one, q_not, q_cmp, q_eq, q_ne, q_lt, q_le, q_gt, q_ge, q_is, q_isnot, q_isnN, q_isnI, q_isnL, q_isnT, q_notR, q_boolD, Bool.not_true, Bool.not_false, List.length_cons, List.length_nil, sz (show 0 ≤ 1000000 by decide), sz (show 0 + 1 ≤ 1000000 by decide), sz (show 0 + 1 + 1 ≤ 1000000 by decide), q_lok, q_t1, q_t2, q_t3, q_t4, q_blt, q_blt1, q_blt2, q_eqi, eS]) ?_
  -- rising calls
  have g1 := n_add1 (2 ^ k)
  have g2 := n_mod (dN d 40) (m := 2 ^ k + 1) (by omega)
  have hm40 := Nat.mod_lt (dN d 40) (show 0 < 2 ^ k + 1 by omega)
  generalize dN d 40 % (2 ^ k + 1) = m40 at *
  have g3 : slcD (iN o) none (some (m40 : Int)) = .ok (iN (o.take m40)) := by
    unfold iN
    rw [q_slcL, cut_to, List.map_take]
  have g4 := q_srt (o.take m40)
  have oa := sN_asc (l := o.take m40) (ond.sublist (List.take_sublist _ _))
  have om : ∀ x ∈ sN (o.take m40), x < 2 ^ k := fun x hx => olt x (List.mem_of_mem_take ((sN_perm _).mem_iff.mp hx))
  have oll : (sN (o.take m40)).length ≤ 2 ^ k := by rw [(sN_perm _).length_eq, List.length_take]; omega
  generalize sN (o.take m40) = outs at *
  refine sq (δ1 := [some (iL ns), some (iL d), some (.int (k : Int)), some (.int ((2 ^ k : Nat) : Int)), some (bN (nets k)), some (iN o), some (cN cS), some (iN outs), none, none, none, none, none, none]) (by simp only [List.set_cons_succ, List.set_cons_zero, q_sasg, q_spar, q_sret, q_sretS, q_sife, q_snil, q_tn, q_tr, q_lst, q_tup, q_call, q_cons, q_nil, q_cI, q_ari, q_ix, q_sl, q_s0, q_s1, q_ki, q_kn, q_kb, q_ks, q_neg, q_negD, q_ci, q_cb, q_cs, q_cn, if_true, q_ok, q_ii, q_or, q_and, q_one, q_not, q_cmp, q_eq, q_ne, q_lt, q_le, q_gt, q_ge, q_is, q_isnot, q_isnN, q_isnI, q_isnL, q_isnT, q_notR, q_boolD, Bool.not_true, Bool.not_false, List.length_cons, List.length_nil, sz (show 0 ≤ 1000000 by decide), sz (show 0 + 1 ≤ 1000000 by decide), sz (show 0 + 1 + 1 ≤ 1000000 by decide), q_lok, q_t1, q_t2, q_t3, q_t4, q_blt, q_blt1, q_blt2, q_eqi, q_pr1, q_slc, q_nop, q_prt, q_intD, d40, g1, g2, g3, g4]) ?_
  have g5 := n_sub (a := 2 ^ k) (b := outs.length) oll
  have g6 := n_add1 (2 ^ k - outs.length)
  have g7 := n_mod (dN d 41) (m := 2 ^ k - outs.length + 1) (by omega)
  have hst := Nat.mod_lt (dN d 41) (show 0 < 2 ^ k - outs.length + 1 by omega)
  generalize dN d 41 % (2 ^ k - outs.length + 1) = st at *
  refine sq (δ1 := [some (iL ns), some (iL d), some (.int (k : Int)), some (.int ((2 ^ k : Nat) : Int)), some (bN (nets k)), some (iN o), some (cN cS), some (iN outs), some (.int (st : Int)), none, none, none, none, none]) (by simp only [List.set_cons_succ, List.set_cons_zero, q_sasg, q_spar, q_sret, q_sretS, q_sife, q_snil, q_tn, q_tr, q_lst, q_tup, q_call, q_cons, q_nil, q_cI, q_ari, q_ix, q_sl, q_s0, q_s1, q_ki, q_kn, q_kb, q_ks, q_neg, q_negD, q_ci, q_cb, q_cs, q_cn, if_true, q_ok, q_ii, q_or, q_and, q_one, q_not, q_cmp, q_eq, q_ne, q_lt, q_le, q_gt, q_ge, q_is, q_isnot, q_isnN, q_isnI, q_isnL, q_isnT, q_notR, q_boolD, Bool.not_true, Bool.not_false, List.length_cons, List.length_nil, sz (show 0 ≤ 1000000 by decide), sz (show 0 + 1 ≤ 1000000 by decide), sz (show 0 + 1 + 1 ≤ 1000000 by decide), q_lok, q_t1, q_t2, q_t3, q_t4, q_blt, q_blt1, q_blt2, q_eqi, d41, iN_len, g5, g6, g7]) ?_
  let cR := cof (List.range outs.length) (fun i => st + i) (fun i => outs.getD i 0)
  have lR : cR.length = outs.length := by show (cof _ _ _).length = _; rw [cof_len, List.length_range]
  have outsat : ∀ i, i < outs.length → outs.getD i 0 < 2 ^ k := fun i hi => by rw [getD_in _ hi]; exact om _ (List.getElem_mem hi)
  have CR : Cls k cR := cof_cls ((range_asc _).imp fun h => by omega) (by rw [List.length_range]; omega) (fun i hi => by have := List.mem_range.mp hi; omega) fun i hi => outsat i (List.mem_range.mp hi)
  have aR : ∀ i j, i < j → j < cR.length → ca cR i < ca cR j := cof_asc (l := List.range outs.length) (g := fun i => st + i) (f := fun i => outs.getD i 0) ((range_asc _).imp fun h => by omega)
  have atR : ∀ i, i < outs.length → ca cR i = st + i ∧ cb' cR i = outs.getD i 0 := fun i hi => by
    have := cof_at (l := List.range outs.length) (g := fun i => st + i) (f := fun i => outs.getD i 0) (i := i) (by rw [List.length_range]; exact hi)
    rw [List.getElem_range] at this
    exact this
  have oasc : ∀ i j, i < j → j < outs.length → outs.getD i 0 + (j - i) ≤ outs.getD j 0 := by
    intro i j hij
    obtain ⟨n, rfl⟩ : ∃ n, j = i + 1 + n := ⟨j - i - 1, by omega⟩
    induction n with
    | zero =>
      intro hj
      rw [getD_in _ (show i < outs.length by omega), getD_in _ hj]
      have := List.pairwise_iff_getElem.mp oa i (i + 1) (by omega) (by omega) (by omega)
      simp only [Nat.add_zero]
      omega
    | succ n ih =>
      intro hj
      have := ih (by omega) (by omega)
      rw [getD_in _ hj]
      rw [getD_in _ (show i + 1 + n < outs.length by omega)] at this
      have := List.pairwise_iff_getElem.mp oa (i + 1 + n) (i + 1 + (n + 1)) (by omega) (by omega) (by omega)
      omega
  have apR : AllAp (ways k cR) := ap_of fun i j hij hj s hs => by
    rw [lR] at hj
    rw [(atR i (by omega)).1, (atR i (by omega)).2, (atR j hj).1, (atR j hj).2]
    have := oasc i j hij hj
    exact rising_ne hs (outsat i (by omega)) (outsat j hj) (by omega) (by omega) (by omega)
  have eR : ev (.comp [("at", 13)] (.one 13) (.rng1 (.blt .len (.cons (.sl 7) .nil))) .nop (.tup (.cons (.ari .Add (.sl 8) (.sl 13)) (.cons (.cI (.ix (.sl 7) (.sl 13))) .nil)))) [some (iL ns), some (iL d), some (.int (k : Int)), some (.int ((2 ^ k : Nat) : Int)), some (bN (nets k)), some (iN o), some (cN cS), some (iN outs), some (.int (st : Int)), none, none, none, none, none] = .ok (cN cR) := by
    rw [ev_comp (List.range outs.length) (fun (i : Nat) => PyData.int (i : Int)) (fun i => pN (st + i, outs.getD i 0)) (ev_rng1 (n := outs.length) (by simp only [List.set_cons_succ, List.set_cons_zero, q_sasg, q_spar, q_sret, q_sretS, q_sife, q_snil, q_tn, q_tr, q_lst, q_tup, q_call, q_cons, q_nil, q_cI, q_ari, q_ix, q_sl, q_s0, q_s1, q_ki, q_kn, q_kb, q_ks, q_neg, q_negD, q_ci, q_cb, q_cs, q_cn, if_true, q_ok, q_ii, q_or, q_and, q_one, q_not, q_cmp, q_eq, q_ne, q_lt, q_le, q_gt, q_ge, q_is, q_isnot, q_isnN, q_isnI, q_isnL, q_isnT, q_notR, q_boolD, Bool.not_true, Bool.not_false, List.length_cons, List.length_nil, sz (show 0 ≤ 1000000 by decide), sz (show 0 + 1 ≤ 1000000 by decide), sz (show 0 + 1 + 1 ≤ 1000000 by decide), q_lok, q_t1, q_t2, q_t3, q_t4, q_blt, q_blt1, q_blt2, q_eqi, iN_len]) (by omega)) fun i hi => ⟨_, rfl, ?_⟩]
    · show R.ok (PyData.list ((List.range outs.length).map fun i => pN (st + i, outs.getD i 0))) = R.ok (PyData.list (((List.range outs.length).map fun i => (st + i, outs.getD i 0)).map pN))
      rw [List.map_map]
      rfl
    · have hi := List.mem_range.mp hi
      have b1 := iN_at (l := outs) (i := i) hi
      have b2 := n_add st i
      simp only [q_w1, q_w0, List.map_cons, List.map_nil, List.set_cons_succ, List.set_cons_zero, q_sasg, q_spar, q_sret, q_sretS, q_sife, q_snil, q_tn, q_tr, q_lst, q_tup, q_call, q_cons, q_nil, q_cI, q_ari, q_ix, q_sl, q_s0, q_s1, q_ki, q_kn, q_kb, q_ks, q_neg, q_negD, q_ci, q_cb, q_cs, q_cn, if_true, q_ok, q_ii, q_or, q_and, q_one, q_not, q_cmp, q_eq, q_ne, q_lt, q_le, q_gt, q_ge, q_is, q_isnot, q_isnN, q_isnI, q_isnL, q_isnT, q_notR, q_boolD, Bool.not_true, Bool.not_false, List.length_cons, List.length_nil, sz (show 0 ≤ 1000000 by decide), sz (show 0 + 1 ≤ 1000000 by decide), sz (show 0 + 1 + 1 ≤ 1000000 by decide), q_lok, q_t1, q_t2, q_t3, q_t4, q_blt, q_blt1, q_blt2, q_eqi, b1, b2]
      rfl
  have riR := f_rising (k := k) (c := cR) CR.l fun i hi => by
    rw [lR] at hi
    rw [(atR i (by omega)).1, (atR i (by omega)).2, (atR (i + 1) hi).1, (atR (i + 1) hi).2]
    have := oasc i (i + 1) (by omega) hi
    omega
  clear_value cR
  refine sq (δ1 := [some (iL ns), some (iL d), some (.int (k : Int)), some (.int ((2 ^ k : Nat) : Int)), some (bN (nets k)), some (iN o), some (cN cS), some (iN outs), some (.int (st : Int)), some (cN cR), none, none, none, none]) (by simp only [List.set_cons_succ, List.set_cons_zero, q_sasg, q_spar, q_sret, q_sretS, q_sife, q_snil, q_tn, q_tr, q_lst, q_tup, q_call, q_cons, q_nil, q_cI, q_ari, q_ix, q_sl, q_s0, q_s1, q_ki, q_kn, q_kb, q_ks, q_neg, q_negD, q_ci, q_cb, q_cs, q_cn, if_true, q_ok, q_ii, q_or, q_and, q_one, q_not, q_cmp, q_eq, q_ne, q_lt, q_le, q_gt, q_ge, q_is, q_isnot, q_isnN, q_isnI, q_isnL, q_isnT, q_notR, q_boolD, Bool.not_true, Bool.not_false, List.length_cons, List.length_nil, sz (show 0 ≤ 1000000 by decide), sz (show 0 + 1 ≤ 1000000 by decide), sz (show 0 + 1 + 1 ≤ 1000000 by decide), q_lok, q_t1, q_t2, q_t3, q_t4, q_blt, q_blt1, q_blt2, q_eqi, eR]) ?_
  -- shifted calls
  have s1 : aOp .Mod (dN d 42 : Int) 8 = .ok (.int ((dN d 42 % 8 : Nat) : Int)) := n_mod _ (m := 8) (by decide)
  have hj := Nat.mod_lt (dN d 42) (show 0 < 8 by decide)
  have s2 := n_2mul (dN d 42 % 8)
  have s3 := n_add1 (2 * (dN d 42 % 8))
  have s4 : aOp .Mod (dN d 43 : Int) 40 = .ok (.int ((dN d 43 % 40 : Nat) : Int)) := n_mod _ (m := 40) (by decide)
  have s5 := q_sub ((dN d 43 % 40 : Nat) : Int) 20
  have s6 := f_shift (k := k) (j := dN d 42 % 8) (c := dN d 43 % 40) hk5
  have apH : AllAp (ways k (cof (List.range (2 ^ k)) (fun a => a) (shf k (dN d 42 % 8) (dN d 43 % 40)))) := ap_of fun i j hij hj' s hs => by
    rw [cof_len, List.length_range] at hj'
    have c1 := cof_at (l := List.range (2 ^ k)) (g := fun a => a) (f := shf k (dN d 42 % 8) (dN d 43 % 40)) (i := i) (by rw [List.length_range]; omega)
    have c2 := cof_at (l := List.range (2 ^ k)) (g := fun a => a) (f := shf k (dN d 42 % 8) (dN d 43 % 40)) (i := j) (by rw [List.length_range]; omega)
    rw [List.getElem_range] at c1 c2
    rw [c1.1, c1.2, c2.1, c2.2, shf_eq hk5, shf_eq hk5]
    exact shift_ne hk5 hs hj hij hj'
  have CH : Cls k (cof (List.range (2 ^ k)) (fun a => a) (shf k (dN d 42 % 8) (dN d 43 % 40))) := cof_cls (range_asc _) (by rw [List.length_range]; omega) (fun i hi => List.mem_range.mp hi) fun i hi => by rw [shf_eq hk5]; exact Nat.mod_lt _ p1.1
  have eH : ev (.comp [("a", 12)] (.one 12) (.rng1 (.sl 3)) .nop (.tup (.cons (.cI (.sl 12)) (.cons (.ari .Mod (.ari .Sub (.ari .Add (.ari .Mult (.sl 12) (.ari .Add (.ari .Mult (.k (.int 2)) (.ari .Mod (.ix (.sl 1) (.k (.int 42))) (.k (.int 8)))) (.k (.int 1)))) (.ari .Mod (.ix (.sl 1) (.k (.int 43))) (.k (.int 40)))) (.k (.int 20))) (.sl 3)) .nil)))) [some (iL ns), some (iL d), some (.int (k : Int)), some (.int ((2 ^ k : Nat) : Int)), some (bN (nets k)), some (iN o), some (cN cS), some (iN outs), some (.int (st : Int)), some (cN cR), some (cN (cof (List.range (2 ^ k)) (fun a => a) (shf k (dN d 42 % 8) (dN d 43 % 40)))), none, none, none] = .ok (cN (cof (List.range (2 ^ k)) (fun a => a) (shf k (dN d 42 % 8) (dN d 43 % 40)))) := by
    rw [ev_comp (List.range (2 ^ k)) (fun (i : Nat) => PyData.int (i : Int)) (fun a => pN (a, shf k (dN d 42 % 8) (dN d 43 % 40) a)) (ev_rng1 (n := 2 ^ k) rfl (by omega)) fun a ha => ⟨_, rfl, ?_⟩]
    · unfold cN cof
      rw [List.map_map]
      rfl
    · have ha := List.mem_range.mp ha
      have b1 := n_mul (a := a) (2 * (dN d 42 % 8) + 1) (l64 (by omega))
      have b2 := q_add ((a * (2 * (dN d 42 % 8) + 1) : Nat) : Int) ((dN d 43 % 40 : Nat) : Int)
      have b3 := q_sub (((a * (2 * (dN d 42 % 8) + 1) : Nat) : Int) + ((dN d 43 % 40 : Nat) : Int)) 20
      have b4 := q_mod (i := ((a * (2 * (dN d 42 % 8) + 1) : Nat) : Int) + ((dN d 43 % 40 : Nat) : Int) - 20) (j := ((2 ^ k : Nat) : Int)) (by omega)
      rw [Int.add_sub_assoc, shf_int] at b4
      rw [Int.add_sub_assoc] at b3
      simp only [q_w1, q_w0, List.map_cons, List.map_nil, List.set_cons_succ, List.set_cons_zero, q_sasg, q_spar, q_sret, q_sretS, q_sife, q_snil, q_tn, q_tr, q_lst, q_tup, q_call, q_cons, q_nil, q_cI, q_ari, q_ix, q_sl, q_s0, q_s1, q_ki, q_kn, q_kb, q_ks, q_neg, q_negD, q_ci, q_cb, q_cs, q_cn, if_true, q_ok, q_ii, q_or, q_and, q_one, q_not, q_cmp, q_eq, q_ne, q_lt, q_le, q_gt, q_ge, q_is, q_isnot, q_isnN, q_isnI, q_isnL, q_isnT, q_notR, q_boolD, Bool.not_true, Bool.not_false, List.length_cons, List.length_nil, sz (show 0 ≤ 1000000 by decide), sz (show 0 + 1 ≤ 1000000 by decide), sz (show 0 + 1 + 1 ≤ 1000000 by decide), q_lok, q_t1, q_t2, q_t3, q_t4, q_blt, q_blt1, q_blt2, q_eqi, d42, d43, s1, s2, s3, s4, b1, b2, b3, b4]
      rfl
  generalize hH : cof (List.range (2 ^ k)) (fun a => a) (shf k (dN d 42 % 8) (dN d 43 % 40)) = cH at *
  have eqH := eq_cN cH
  refine sq (δ1 := [some (iL ns), some (iL d), some (.int (k : Int)), some (.int ((2 ^ k : Nat) : Int)), some (bN (nets k)), some (iN o), some (cN cS), some (iN outs), some (.int (st : Int)), some (cN cR), some (cN cH), none, none, none]) (by simp only [List.set_cons_succ, List.set_cons_zero, q_sasg, q_spar, q_sret, q_sretS, q_sife, q_snil, q_tn, q_tr, q_lst, q_tup, q_call, q_cons, q_nil, q_cI, q_ari, q_ix, q_sl, q_s0, q_s1, q_ki, q_kn, q_kb, q_ks, q_neg, q_negD, q_ci, q_cb, q_cs, q_cn, if_true, q_ok, q_ii, q_or, q_and, q_one, q_not, q_cmp, q_eq, q_ne, q_lt, q_le, q_gt, q_ge, q_is, q_isnot, q_isnN, q_isnI, q_isnL, q_isnT, q_notR, q_boolD, Bool.not_true, Bool.not_false, List.length_cons, List.length_nil, sz (show 0 ≤ 1000000 by decide), sz (show 0 + 1 ≤ 1000000 by decide), sz (show 0 + 1 + 1 ≤ 1000000 by decide), q_lok, q_t1, q_t2, q_t3, q_t4, q_blt, q_blt1, q_blt2, q_eqi, d42, d43, s1, s2, s3, s4, s5, s6]) ?_
  refine sq (δ1 := [some (iL ns), some (iL d), some (.int (k : Int)), some (.int ((2 ^ k : Nat) : Int)), some (bN (nets k)), some (iN o), some (cN cS), some (iN outs), some (.int (st : Int)), some (cN cR), some (cN cH), none, none, none]) (by simp only [List.set_cons_succ, List.set_cons_zero, q_sasg, q_spar, q_sret, q_sretS, q_sife, q_snil, q_tn, q_tr, q_lst, q_tup, q_call, q_cons, q_nil, q_cI, q_ari, q_ix, q_sl, q_s0, q_s1, q_ki, q_kn, q_kb, q_ks, q_neg, q_negD, q_ci, q_cb, q_cs, q_cn, if_true, q_ok, q_ii, q_or, q_and, q_one, q_not, q_cmp, q_eq, q_ne, q_lt, q_le, q_gt, q_ge, q_is, q_isnot, q_isnN, q_isnI, q_isnL, q_isnT, q_notR, q_boolD, Bool.not_true, Bool.not_false, List.length_cons, List.length_nil, sz (show 0 ≤ 1000000 by decide), sz (show 0 + 1 ≤ 1000000 by decide), sz (show 0 + 1 + 1 ≤ 1000000 by decide), q_lok, q_t1, q_t2, q_t3, q_t4, q_blt, q_blt1, q_blt2, q_eqi, eH, eqH]) ?_
  -- all of them
  have eF : ev (.comp [("a", 12)] (.one 12) (.rng1 (.sl 3)) .nop (.tup (.cons (.cI (.sl 12)) (.cons (.cI (.ix (.sl 5) (.sl 12))) .nil)))) [some (iL ns), some (iL d), some (.int (k : Int)), some (.int ((2 ^ k : Nat) : Int)), some (bN (nets k)), some (iN o), some (cN cS), some (iN outs), some (.int (st : Int)), some (cN cR), some (cN cH), none, none, none] = .ok (cN (cof (List.range (2 ^ k)) (fun a => a) (fun a => o.getD a 0))) := by
    rw [ev_comp (List.range (2 ^ k)) (fun (i : Nat) => PyData.int (i : Int)) (fun a => pN (a, o.getD a 0)) (ev_rng1 (n := 2 ^ k) rfl (by omega)) fun a ha => ⟨_, rfl, ?_⟩]
    · unfold cN cof
      rw [List.map_map]
      rfl
    · have ha := List.mem_range.mp ha
      have b1 := iN_at (l := o) (i := a) (by omega)
      simp only [q_w1, q_w0, List.map_cons, List.map_nil, List.set_cons_succ, List.set_cons_zero, q_sasg, q_spar, q_sret, q_sretS, q_sife, q_snil, q_tn, q_tr, q_lst, q_tup, q_call, q_cons, q_nil, q_cI, q_ari, q_ix, q_sl, q_s0, q_s1, q_ki, q_kn, q_kb, q_ks, q_neg, q_negD, q_ci, q_cb, q_cs, q_cn, if_true, q_ok, q_ii, q_or, q_and, q_one, q_not, q_cmp, q_eq, q_ne, q_lt, q_le, q_gt, q_ge, q_is, q_isnot, q_isnN, q_isnI, q_isnL, q_isnT, q_notR, q_boolD, Bool.not_true, Bool.not_false, List.length_cons, List.length_nil, sz (show 0 ≤ 1000000 by decide), sz (show 0 + 1 ≤ 1000000 by decide), sz (show 0 + 1 + 1 ≤ 1000000 by decide), q_lok, q_t1, q_t2, q_t3, q_t4, q_blt, q_blt1, q_blt2, q_eqi, b1]
      rfl
  have CF : Cls k (cof (List.range (2 ^ k)) (fun a => a) (fun a => o.getD a 0)) := cof_cls (range_asc _) (by rw [List.length_range]; omega) (fun i hi => List.mem_range.mp hi) fun i hi => oat i (List.mem_range.mp hi)
  generalize cof (List.range (2 ^ k)) (fun a => a) (fun a => o.getD a 0) = cF at *
  clear_value cS
  have four : ∀ c ∈ [cS, cR, cH, cF], F_law_right [.int (k : Int), cN c, bN (nets k)] = .ok (.bool true) := fun c hc => by
    refine f_right hk1 hk5 ?_
    simp only [List.mem_cons, List.not_mem_nil, or_false] at hc
    rcases hc with rfl | rfl | rfl | rfl
    · exact CS
    · exact CR
    · exact CH
    · exact CF
  refine sq_for ([cS, cR, cH, cF].map cN) (by simp only [List.set_cons_succ, List.set_cons_zero, q_sasg, q_spar, q_sret, q_sretS, q_sife, q_snil, q_tn, q_tr, q_lst, q_tup, q_call, q_cons, q_nil, q_cI, q_ari, q_ix, q_sl, q_s0, q_s1, q_ki, q_kn, q_kb, q_ks, q_neg, q_negD, q_ci, q_cb, q_cs, q_cn, if_true, q_ok, q_ii, q_or, q_and, q_one, q_not, q_cmp, q_eq, q_ne, q_lt, q_le, q_gt, q_ge, q_is, q_isnot, q_isnN, q_isnI, q_isnL, q_isnT, q_notR, q_boolD, Bool.not_true, Bool.not_false, List.length_cons, List.length_nil, sz (show 0 ≤ 1000000 by decide), sz (show 0 + 1 ≤ 1000000 by decide), sz (show 0 + 1 + 1 ≤ 1000000 by decide), q_lok, q_t1, q_t2, q_t3, q_t4, q_blt, q_blt1, q_blt2, q_eqi, eF, sz (show 0 + 1 + 1 + 1 + 1 ≤ 1000000 by decide), q_itL]; rfl) rfl (fun i δ => ∃ x, δ = [some (iL ns), some (iL d), some (.int (k : Int)), some (.int ((2 ^ k : Nat) : Int)), some (bN (nets k)), some (iN o), some (cN cS), some (iN outs), some (.int (st : Int)), some (cN cR), some (cN cH), x, none, none]) ⟨_, rfl⟩ (fun i δ hi hI => ?_) (fun δ' hI => ?_)
  · obtain ⟨x, rfl⟩ := hI
    rw [List.getElem_map]
    have e := four _ (List.getElem_mem (by simpa using hi))
    generalize [cS, cR, cH, cF][i]'(by simpa using hi) = c at *
    exact ⟨_, _, rfl, sq (δ1 := [some (iL ns), some (iL d), some (.int (k : Int)), some (.int ((2 ^ k : Nat) : Int)), some (bN (nets k)), some (iN o), some (cN cS), some (iN outs), some (.int (st : Int)), some (cN cR), some (cN cH), some (cN c), none, none]) (by simp only [List.set_cons_succ, List.set_cons_zero, q_sasg, q_spar, q_sret, q_sretS, q_sife, q_snil, q_tn, q_tr, q_lst, q_tup, q_call, q_cons, q_nil, q_cI, q_ari, q_ix, q_sl, q_s0, q_s1, q_ki, q_kn, q_kb, q_ks, q_neg, q_negD, q_ci, q_cb, q_cs, q_cn, if_true, q_ok, q_ii, q_or, q_and, q_one, q_not, q_cmp, q_eq, q_ne, q_lt, q_le, q_gt, q_ge, q_is, q_isnot, q_isnN, q_isnI, q_isnL, q_isnT, q_notR, q_boolD, Bool.not_true, Bool.not_false, List.length_cons, List.length_nil, sz (show 0 ≤ 1000000 by decide), sz (show 0 + 1 ≤ 1000000 by decide), sz (show 0 + 1 + 1 ≤ 1000000 by decide), q_lok, q_t1, q_t2, q_t3, q_t4, q_blt, q_blt1, q_blt2, q_eqi, e]) rfl, _, rfl⟩
  · obtain ⟨x, rfl⟩ := hI
    obtain ⟨TR, eTR⟩ := ap_paper hk1 hk5 CR apR
    obtain ⟨TH, eTH⟩ := ap_paper hk1 hk5 CH apH
    have i0 : ∀ T, ixD (.tuple [.str "settings", tN T]) (.int 0) = .ok (.str "settings") := fun _ => rfl
    have ecp : ev (.cL (.blt .list (.cons (.sl 9) .nil))) [some (iL ns), some (iL d), some (.int (k : Int)), some (.int ((2 ^ k : Nat) : Int)), some (bN (nets k)), some (iN o), some (cN cS), some (iN outs), some (.int (st : Int)), some (cN cR), some (cN cH), x, none, none] = .ok (cN cR) := cN_copy rfl
    refine sq (δ1 := [some (iL ns), some (iL d), some (.int (k : Int)), some (.int ((2 ^ k : Nat) : Int)), some (bN (nets k)), some (iN o), some (cN cS), some (iN outs), some (.int (st : Int)), some (cN cR), some (cN cH), x, none, none]) (by simp only [List.set_cons_succ, List.set_cons_zero, q_sasg, q_spar, q_sret, q_sretS, q_sife, q_snil, q_tn, q_tr, q_lst, q_tup, q_call, q_cons, q_nil, q_cI, q_ari, q_ix, q_sl, q_s0, q_s1, q_ki, q_kn, q_kb, q_ks, q_neg, q_negD, q_ci, q_cb, q_cs, q_cn, if_true, q_ok, q_ii, q_or, q_and, q_one, q_not, q_cmp, q_eq, q_ne, q_lt, q_le, q_gt, q_ge, q_is, q_isnot, q_isnN, q_isnI, q_isnL, q_isnT, q_notR, q_boolD, Bool.not_true, Bool.not_false, List.length_cons, List.length_nil, sz (show 0 ≤ 1000000 by decide), sz (show 0 + 1 ≤ 1000000 by decide), sz (show 0 + 1 + 1 ≤ 1000000 by decide), q_lok, q_t1, q_t2, q_t3, q_t4, q_blt, q_blt1, q_blt2, q_eqi, ecp, riR, q_isnb, eTR, eTH, i0, eq_ss, decide_true]) (sqx ?_)
    by_cases c : 3 < k
    · simp only [List.set_cons_succ, List.set_cons_zero, q_sasg, q_spar, q_sret, q_sretS, q_sife, q_snil, q_tn, q_tr, q_lst, q_tup, q_call, q_cons, q_nil, q_cI, q_ari, q_ix, q_sl, q_s0, q_s1, q_ki, q_kn, q_kb, q_ks, q_neg, q_negD, q_ci, q_cb, q_cs, q_cn, if_true, q_ok, q_ii, q_or, q_and, q_one, q_not, q_cmp, q_eq, q_ne, q_lt, q_le, q_gt, q_ge, q_is, q_isnot, q_isnN, q_isnI, q_isnL, q_isnT, q_notR, q_boolD, Bool.not_true, Bool.not_false, List.length_cons, List.length_nil, sz (show 0 ≤ 1000000 by decide), sz (show 0 + 1 ≤ 1000000 by decide), sz (show 0 + 1 + 1 ≤ 1000000 by decide), q_lok, q_t1, q_t2, q_t3, q_t4, q_blt, q_blt1, q_blt2, q_eqi, show decide ((3 : Int) < (k : Int)) = true from decide_eq_true (by omega)]
    · have p8 : 2 ^ k ≤ 8 := Nat.le_trans (Nat.pow_le_pow_right (by decide) (show k ≤ 3 by omega)) (by decide)
      have r1 := f_rgroups hk1 hk5 CS (by omega) aS
      have r2 := f_rgroups hk1 hk5 CR (by omega) aR
      simp only [List.set_cons_succ, List.set_cons_zero, q_sasg, q_spar, q_sret, q_sretS, q_sife, q_snil, q_tn, q_tr, q_lst, q_tup, q_call, q_cons, q_nil, q_cI, q_ari, q_ix, q_sl, q_s0, q_s1, q_ki, q_kn, q_kb, q_ks, q_neg, q_negD, q_ci, q_cb, q_cs, q_cn, if_true, q_ok, q_ii, q_or, q_and, q_one, q_not, q_cmp, q_eq, q_ne, q_lt, q_le, q_gt, q_ge, q_is, q_isnot, q_isnN, q_isnI, q_isnL, q_isnT, q_notR, q_boolD, Bool.not_true, Bool.not_false, List.length_cons, List.length_nil, sz (show 0 ≤ 1000000 by decide), sz (show 0 + 1 ≤ 1000000 by decide), sz (show 0 + 1 + 1 ≤ 1000000 by decide), q_lok, q_t1, q_t2, q_t3, q_t4, q_blt, q_blt1, q_blt2, q_eqi, show decide ((3 : Int) < (k : Int)) = false from decide_eq_false (by omega), r1, r2]
end VS
theorem PySem.Challenge.cw_switchways_k94_across_omega_nets_and_but_holds : PySem.Challenge.rw_switchways_k94_across_omega_nets_and_but.Holds :=
  PySem.Challenge.head_switchways_k94_across_omega_nets_and_but VS.hlaw94
